import PyProof.Rows.All
import Wide.All
import OpenK.AllK
import Wide.FinOn
import PySem.Str
import KE.DataMinMax
import KE.SortData
import HandS.List
import HandS.ForSpec
import HandS.ForMost
import HandS.EndTab
import HandS.ExcInit
import HandS.ExcField
import HandS.TryMany
import HandS.Flow
import HandS.IsInst
import HandS.CallLocal
import HandS.Wide
import HandS.Zip
import HandS.RevRange
import HandS.Conv
import HandS.TupMul
import KE.DataEq
import KE.DataCmp
import KE.DataFind
import PyProof.ReprRoads
import HandS.TupAny
import HandS.Dict
import KE.KTupSum
import HandS.Style
import KE.GoesEnum
import HandS.Iter
import HandS.Star
import HandS.SortKw
import HandS.More
import HandS.Defaults
import KE.KNestM
import PySem.Challenge.RW_icekeep_k12_whole_more_and_less
section
/-! Ice: values, stores, the small language and its interpreter. -/
set_option autoImplicit false
set_option linter.all false
namespace Ice
open PySem

/-- data as trees -/
inductive T where
  | non | bl (b : Bool) | int (i : Int) | str (s : Str)
  | tup (xs : List T) | lst (xs : List T)
  | ins (c : String) (fs : List (String × T))
  | dct (kvs : List (Str × T))
  | fn (f : String)
  | scr (ns : List Int)
  | wt (xs : List T)
/-- a value: a tree, or a handle of an object that may change -/
inductive D where
  | t (x : T) | h (k : Nat)
inductive O where
  | lst (xs : List D)
  | dT (kvs : List (List Int × T))
  | dK (kvs : List (Str × T))
  | ins (c : String) (fs : List (String × D))
  | dead
abbrev Store := List O
structure Exn where
  cls : String
  fs : List (String × T)
inductive R (α : Type) where
  | ok (a : α) (s : Store) | ex (e : Exn) (s : Store) | no
def R.bind {α β : Type} (r : R α) (f : α → Store → R β) : R β := match r with
  | .ok a s => f a s
  | .ex e s => .ex e s
  | .no => .no
@[simp] theorem R.bind_ok {α β : Type} (a : α) (s : Store) (f : α → Store → R β) : (R.ok a s).bind f = f a s := rfl
@[simp] theorem R.bind_ex {α β : Type} (e : Exn) (s : Store) (f : α → Store → R β) : (R.ex e s : R α).bind f = .ex e s := rfl
@[simp] theorem R.bind_no {α β : Type} (f : α → Store → R β) : (R.no : R α).bind f = .no := rfl

inductive BOp where | add | sub | mul | fdiv | mod | pow
  deriving DecidableEq
inductive COp where | lt | le | gt | ge | eq | ne | is_ | isNot | in_ | notIn
  deriving DecidableEq
inductive Ty where | int | bool | str | list | tuple | dict | cls (c : String)
  deriving DecidableEq
inductive Bi where | len | int | list | tuple | sum | min | max | sorted | all | any | repr | str | dict
  deriving DecidableEq

mutual
inductive Tg where
  | nm (i : Nat) | tp (l : Tgs)
inductive Tgs where
  | nil | cons (g : Tg) (r : Tgs)
end

mutual
inductive Ex where
  | var (i : Nat)
  | lit (x : T)
  | glb (x : String)
  | bin (o : BOp) (a b : Ex)
  | neg (a : Ex)
  | nt (a : Ex)
  | and2 (a b : Ex)
  | or2 (a b : Ex)
  | ite (c a b : Ex)
  | cmp (o : COp) (a b : Ex)
  | chain (o p : COp) (a b c : Ex)
  | tup (es : Exs)
  | fr (l : Fl)
  | mu (l : Fl)
  | mud
  | sub (a i : Ex)
  | cut (a : Ex) (lo hi : Ox)
  | rev (a : Ex)
  | call (f : String) (es : Exs)
  | calv (i : Nat) (es : Exs)
  | new (c : String) (es : Exs)
  | bi (b : Bi) (es : Exs)
  | bik (b : Bi) (e d : Ex)
  | isi (e : Ex) (cs : List Ty)
  | att (e : Ex) (f : String)
  | meth (e : Ex) (m : String) (es : Exs)
  | lam (f : String) (body : Ex)
inductive Exs where
  | nil | cons (e : Ex) (r : Exs) | star (e : Ex) (r : Exs)
inductive Ox where
  | non | som (e : Ex)
inductive Fl where
  | disp (es : Exs)
  | comp (elt : Ex) (tg : Tg) (src : Src) (cond : Ox) (own : List Nat)
  | ofIt (s : Src)
  | rep (e n : Ex)
  | cat (a b : Ex)
inductive Src where
  | it (e : Ex) | range (es : Exs) | enum (e : Ex) | zip (a b : Ex)
end
mutual
inductive Sm where
  | asg (g : Tg) (e : Ex)
  | par (is : List Nat) (es : Exs)
  | aug (i : Nat) (o : BOp) (e : Ex)
  | setI (o i e : Ex)
  | augI (o i : Ex) (op : BOp) (e : Ex)
  | setA (o : Ex) (f : String) (e : Ex)
  | augA (o : Ex) (f : String) (op : BOp) (e : Ex)
  | ex (e : Ex)
  | app (o e : Ex)
  | inst (o i e : Ex)
  | ext (o e : Ex)
  | ret (e : Ex)
  | if_ (c : Ex) (a b : Sms)
  | whl (c : Ex) (b : Sms)
  | for_ (g : Tg) (s : Src) (b : Sms)
  | brk
  | pass_
  | raise (c : String) (es : Exs)
  | frz (i : Nat)
inductive Sms where
  | nil | cons (s : Sm) (r : Sms)
end

/-! ### data as the library has them -/
mutual
def T.py : T → PyData
  | .non => .none
  | .bl b => .bool b
  | .int i => .int i
  | .str s => .str s
  | .tup xs => .tuple (pyAll xs)
  | .lst xs => .list (pyAll xs)
  | .ins _ _ => .none
  | .dct _ => .none
  | .fn _ => .none
  | .scr _ => .none
  | .wt _ => .none
def pyAll : List T → List PyData
  | [] => []
  | x :: xs => x.py :: pyAll xs
end
mutual
/-- no instance, dict or def lies within -/
def T.data : T → Bool
  | .non | .bl _ | .int _ | .str _ => true
  | .tup xs | .lst xs => dataAll xs
  | .ins _ _ | .dct _ | .fn _ | .scr _ | .wt _ => false
def dataAll : List T → Bool
  | [] => true
  | x :: xs => x.data && dataAll xs
end
def eqT (a b : T) : Bool := PyData.eqv a.py b.py
def ltT (a b : T) : Bool := PySem.W.dataLt a.py b.py
def leT : T → T → Bool := PySem.W.dataLe false T.py
/-- each two can be compared, place by place -/
def alikes (xs : List T) : Bool := xs.all fun a => xs.all fun b => PySem.W.alike a.py b.py
def T.isTup1 : T → Bool
  | .tup (_ :: _) => true
  | _ => false
def T.isTup : T → Bool
  | .tup _ => true
  | _ => false
def T.isNon : T → Bool
  | .non => true
  | _ => false
def sortable (xs : List T) : Bool := xs.all T.isTup1 || xs.all fun x => !x.isNon && !x.isTup
def minT (x : T) (xs : List T) : T := xs.foldl (fun a y => if ltT y a then y else a) x
def maxT (x : T) (xs : List T) : T := xs.foldl (fun a y => if ltT a y then y else a) x
def deepest : Nat := 100

/-! ### small readings -/
/-- the items of a display -/
def few {α : Type} (ds : List α) : Option (List α) := if decide (ds.length ≤ 1000000) then some ds else none
def D.tree? : D → Option T
  | .t x => some x
  | .h _ => none
def trees : List D → Option (List T)
  | [] => some []
  | .t x :: r => (trees r).map (x :: ·)
  | .h _ :: _ => none
/-- the items of a list or a tuple -/
def items (st : Store) : D → Option (List D)
  | .t (.lst xs) => some (xs.map .t)
  | .t (.tup xs) => some (xs.map .t)
  | .t (.scr ns) => some (ns.map fun n => .t (.int n))
  | .t (.wt xs) => some (xs.map .t)
  | .h k => match st[k]? with
    | some (.lst xs) => some xs
    | _ => none
  | _ => none
/-- the items of a list -/
def litems (st : Store) : D → Option (List D)
  | .t (.lst xs) => some (xs.map .t)
  | .t (.scr ns) => some (ns.map fun n => .t (.int n))
  | .h k => match st[k]? with
    | some (.lst xs) => some xs
    | _ => none
  | _ => none
def truth (st : Store) : D → Option Bool
  | .t .non => some false
  | .t (.bl b) => some b
  | .t (.int i) => some (i != 0)
  | .t (.str s) => if s.length ≤ 16777216 then some ((s.length : Int) != 0) else none
  | .t (.tup xs) => some (!xs.isEmpty)
  | .t (.lst xs) => some (!xs.isEmpty)
  | .h k => match st[k]? with
    | some (.lst xs) => some (!xs.isEmpty)
    | _ => none
  | _ => none
/-- the index of a place, of any sign -/
def place (n : Nat) (i : Int) : Option Nat := L2.ixN n i
def fits (n : Nat) : Bool := decide (n ≤ 1000000)

def binT (o : BOp) (a b : T) : Option T := match o, a, b with
  | .add, .int i, .int j => some (.int (i + j))
  | .sub, .int i, .int j => some (.int (i - j))
  | .mul, .int i, .int j => if i.natAbs < 18446744073709551616 ∨ j.natAbs < 18446744073709551616 then some (.int (i * j)) else none
  | .fdiv, .int i, .int j => if 0 < j ∧ j < 1073741824 then some (.int (i / j)) else none
  | .mod, .int i, .int j => if 0 < j then some (.int (i % j)) else none
  | .pow, .int i, .int j => if 0 ≤ j ∧ j ≤ 1000 ∧ i.natAbs < 18446744073709551616 then some (.int (i ^ j.toNat)) else none
  | .add, .tup xs, .tup ys => if fits (xs.length + ys.length) then some (.tup (xs ++ ys)) else none
  | .add, .lst xs, .lst ys => if fits (xs.length + ys.length) then some (.lst (xs ++ ys)) else none
  | .mul, .lst xs, .int j => if 0 ≤ j ∧ j ≤ 1000000 ∧ fits (xs.length * j.toNat) then some (.lst (List.replicate j.toNat xs).flatten) else none
  | .mul, .tup xs, .int j => if 2 ≤ j ∧ j ≤ 1000 ∧ xs.isEmpty = false ∧ xs.length ≤ 1000 then some (.tup (List.replicate j.toNat xs).flatten) else none
  | .add, .str x, .str y => if x.length + y.length ≤ 1000000 then some (.str (x ++ y)) else none
  | _, _, _ => none

/-- name op= value: ints -/
def augT (o : BOp) (a b : T) : Option T := match o, a, b with
  | .pow, _, _ => none
  | o, .int i, .int j => binT o (.int i) (.int j)
  | _, _, _ => none
def inT (x : T) (ys : List T) : Bool := ys.any fun y => eqT y x
def cmpT (o : COp) (a b : T) : Option Bool := match o with
  | .lt => match a, b with
    | .int i, .int j => some (decide (i < j))
    | .tup _, .tup _ => if a.data && b.data && PySem.W.alike a.py b.py && decide (a.py.depth ≤ deepest) then some (ltT a b) else none
    | _, _ => none
  | .le => match a, b with
    | .int i, .int j => some (decide (i ≤ j))
    | _, _ => none
  | .gt => match a, b with
    | .int i, .int j => some (decide (j < i))
    | _, _ => none
  | .ge => match a, b with
    | .int i, .int j => some (decide (j ≤ i))
    | _, _ => none
  | .eq => if a.data && b.data && decide (a.py.depth ≤ deepest) then some (eqT a b) else none
  | .ne => if a.data && b.data && decide (a.py.depth ≤ deepest) then some (!eqT a b) else none
  | .is_ => match b with
    | .non => some a.isNon
    | .bl true => match a with
      | .bl c => some c
      | .non | .int _ | .str _ => some false
      | _ => none
    | .bl false => match a with
      | .bl c => some (!c)
      | .non | .int _ | .str _ => some false
      | _ => none
    | _ => none
  | .isNot => match b with
    | .non => some (!a.isNon)
    | .bl true => match a with
      | .bl c => some (!c)
      | .non | .int _ | .str _ => some true
      | _ => none
    | .bl false => match a with
      | .bl c => some c
      | .non | .int _ | .str _ => some true
      | _ => none
    | _ => none
  | .in_ => match b with
    | .lst ys => if a.data && dataAll ys && decide (a.py.depth ≤ deepest) then some (inT a ys) else none
    | .tup ys => if a.data && dataAll ys && decide (a.py.depth ≤ deepest) then some (inT a ys) else none
    | _ => none
  | .notIn => match b with
    | .lst ys => if a.data && dataAll ys && decide (a.py.depth ≤ deepest) then some (!inT a ys) else none
    | .tup ys => if a.data && dataAll ys && decide (a.py.depth ≤ deepest) then some (!inT a ys) else none
    | _ => none

/-! ### the program's table -/
structure Fn where
  np : Nat
  N : List String
  dfl : List T
  body : Sms
structure ClsR where
  init : String
  frozen : Bool
  flds : List String
  meths : List String
structure ExcR where
  flds : List String
  sup : List String
inductive LamR where
  | refused (hs : List (String × Str × List String))
  | answer (c : String)
structure Tab where
  fn : String → Option Fn
  con : String → Option T
  cls : String → Option ClsR
  exc : String → Option ExcR
  lam : String → Option LamR

def fldOk (P : Tab) (c f : String) : Bool := match P.cls c with
  | some C => C.flds.contains f
  | none => false
def methOk (P : Tab) (c f : String) : Bool := match P.cls c with
  | some C => C.meths.contains f
  | none => false
abbrev Env := List (Option D)
abbrev CallF := String → List D → Store → R D

/-! ### handles over a call -/
def reachD (st : Store) : Nat → List Nat → D → List Nat
  | 0, acc, _ => acc
  | _, acc, .t _ => acc
  | n + 1, acc, .h k => if acc.contains k then acc else match st[k]? with
    | some (.lst xs) => xs.foldl (reachD st n) (acc ++ [k])
    | some (.ins _ fs) => fs.foldl (fun a p => reachD st n a p.2) (acc ++ [k])
    | _ => acc ++ [k]
def reach (st : Store) (ds : List D) : List Nat := ds.foldl (reachD st 4) []
def renD (ks : List Nat) : D → D
  | .t x => .t x
  | .h k => .h (ks.idxOf k)
def mapO (f : D → D) : O → O
  | .lst xs => .lst (xs.map f)
  | .ins c fs => .ins c (fs.map fun p => (p.1, f p.2))
  | .dT kvs => .dT kvs
  | .dK kvs => .dK kvs
  | .dead => .dead
/-- what is passed is closed -/
def inKs (ks : List Nat) : D → Bool
  | .t _ => true
  | .h k => ks.contains k
def objIn (ks : List Nat) : O → Bool
  | .lst xs => xs.all (inKs ks)
  | .ins _ fs => fs.all fun p => inKs ks p.2
  | _ => true
def okKs (ks : List Nat) (st : Store) (args : List D) : Bool := args.all (inKs ks) && (ks.all fun k => decide (k < st.length) && objIn ks (st.getD k .dead)) && decide ks.Nodup
def subS (ks : List Nat) (st : Store) : Store := ks.map fun k => mapO (renD ks) (st.getD k .dead)
/-- back: ks the places of the entry objects, base where the new ones go -/
def unD (ks : List Nat) (base : Nat) : D → D
  | .t x => .t x
  | .h i => if i < ks.length then .h (ks.getD i 0) else .h (base + (i - ks.length))
def belowD (m : Nat) : D → Bool
  | .t _ => true
  | .h k => decide (k < m)
def belowO (m : Nat) : O → Bool
  | .lst xs => xs.all (belowD m)
  | .ins _ fs => fs.all fun p => belowD m p.2
  | _ => true
def writeBack (st : Store) : List Nat → List O → Store
  | k :: ks, o :: os => writeBack (st.set k o) ks os
  | _, _ => st
/-- the caller's store behind a call: what the callee made is dropped where nothing speaks of it -/
def backS (ks : List Nat) (st st' : Store) (drop : Bool) : Store :=
  writeBack st ks ((st'.take ks.length).map (mapO (unD ks st.length))) ++ (if drop then [] else (st'.drop ks.length).map (mapO (unD ks st.length)))
def closedS (m : Nat) (st' : Store) : Bool := (st'.take m).all (belowO m)
/-- a list that was made, as a tree -/
def freezeD (m : Nat) (st : Store) : Nat → D → Option T
  | _, .t x => some x
  | 0, .h _ => none
  | n + 1, .h k => if k < m then none else match st[k]? with
    | some (.lst xs) => (xs.mapM (freezeD m st n)).map T.lst
    | _ => none
def giveBack (ks : List Nat) (st : Store) (d : D) (st' : Store) : R D :=
  match d with
  | .t x => .ok (.t x) (backS ks st st' (closedS ks.length st'))
  | .h i => if i < ks.length then .ok (.h (ks.getD i 0)) (backS ks st st' (closedS ks.length st')) else
    match freezeD ks.length st' 3 d with
    | some x => if closedS ks.length st' then .ok (.t x) (backS ks st st' true) else .no
    | none => .ok (unD ks st.length d) (backS ks st st' false)
def fill (F : Fn) (args : List D) : Option (List D) :=
  if args.length ≤ F.np ∧ F.np - args.length ≤ F.dfl.length then some (args ++ (F.dfl.drop (F.dfl.length - (F.np - args.length))).map .t) else none
def callD0 (cf : CallF) (f : String) (args : List D) (st : Store) : R D :=
  let ks := reach st args
  if okKs ks st args = false then .no else
  match cf f (args.map (renD ks)) (subS ks st) with
  | .no => .no
  | .ex e st' => if closedS ks.length st' then .ex e (backS ks st st' true) else .no
  | .ok d st' => giveBack ks st d st'
def callD (P : Tab) (cf : CallF) (f : String) (args : List D) (st : Store) : R D := match P.fn f with
  | some F => (match fill F args with
    | some ds => callD0 cf f ds st
    | none => .no)
  | none => .no
def freezeFs : List (String × D) → Option (List (String × T))
  | [] => some []
  | (f, .t x) :: r => (freezeFs r).map ((f, x) :: ·)
  | (_, .h _) :: _ => none
def newD0 (cf : CallF) (c : String) (C : ClsR) (args : List D) (st : Store) : R D :=
  let ks := reach st args
  if okKs ks st args = false then .no else
  match cf C.init (.h ks.length :: args.map (renD ks)) (subS ks st ++ [.ins c []]) with
  | .no => .no
  | .ex e st' => if closedS ks.length st' then .ex e (backS ks st st' true) else .no
  | .ok (.t .non) st' => if closedS ks.length st' then
      if C.frozen then (match st'[ks.length]? with
        | some (.ins c' fs) => if c' = c then (match freezeFs fs with
          | some gs => .ok (.t (.ins c gs)) (backS ks st st' true)
          | none => .no) else .no
        | _ => .no)
      else .ok (.h st.length) (backS ks st st' false)
    else .no
  | .ok _ _ => .no

def newD (P : Tab) (cf : CallF) (c : String) (args : List D) (st : Store) : R D := match P.cls c with
  | some C => (match P.fn C.init with
    | some F => (match fill F (.h 0 :: args) with
      | some (_ :: ds) => newD0 cf c C ds st
      | _ => .no)
    | none => .no)
  | none => .no

/-! ### what is walked -/
inductive It where
  | xs (l : List D)
  | hl (k : Nat)
  | rng (lo step : Int) (n : Nat)
  | en (i : It)
  | zp (a b : It)
def getI (st : Store) (i : Nat) : It → Option (Option D)
  | .xs l => some l[i]?
  | .hl k => match st[k]? with
    | some (.lst xs) => some xs[i]?
    | _ => none
  | .rng lo s n => some (if i < n then some (.t (.int (lo + (i : Int) * s))) else none)
  | .en it => match getI st i it with
    | some (some (.t x)) => some (some (.t (.tup [.int (i : Int), x])))
    | some none => some none
    | _ => none
  | .zp a b => match getI st i a, getI st i b with
    | some none, some _ => some none
    | some (some _), some none => some none
    | some (some (.t x)), some (some (.t y)) => some (some (.t (.tup [x, y])))
    | _, _ => none
def allI (st : Store) : It → Option (List D)
  | .xs l => some l
  | .hl k => match st[k]? with
    | some (.lst xs) => some xs
    | _ => none
  | .rng lo s n => if fits n then some ((List.range n).map fun (i : Nat) => D.t (.int (lo + (i : Int) * s))) else none
  | _ => none
def lenI (st : Store) : It → Nat
  | .xs l => l.length
  | .hl k => match st[k]? with
    | some (.lst xs) => xs.length
    | _ => 0
  | .rng _ _ n => n
  | .en it => lenI st it
  | .zp a _ => lenI st a
def noEx {α : Type} (r : R α) : R α := match r with
  | .ok a s => .ok a s
  | _ => .no
@[simp] theorem noEx_ok {α : Type} (a : α) (s : Store) : noEx (R.ok a s) = .ok a s := rfl
def compL (it : It) (body : D → Store → R (Option D)) : Nat → Nat → List D → Store → R (List D)
  | n, i, acc, st => match getI st i it with
    | some none => .ok acc st
    | some (some d) => (match n with
      | 0 => .no
      | n + 1 => (noEx (body d st)).bind fun o st => if fits acc.length then compL it body n (i + 1) (acc ++ o.toList) st else .no)
    | none => .no
def rangeI (ds : List D) : Option It := match ds with
  | [.t (.int n)] => if -1000000000 ≤ n ∧ n ≤ 1000000000 then some (.rng 0 1 n.toNat) else none
  | [.t (.int a), .t (.int b)] => if (-1000000000 ≤ a ∧ a ≤ 1000000000) ∧ -1000000000 ≤ b ∧ b ≤ 1000000000 then some (.rng a 1 (b - a).toNat) else none
  | [.t (.int a), .t (.int b), .t (.int s)] => if s = -1 ∧ (-1000000000 ≤ a ∧ a ≤ 1000000000) ∧ -1000000000 ≤ b ∧ b ≤ 1000000000 then some (.rng a (-1) (a - b).toNat) else none
  | _ => none
def itI (st : Store) (d : D) : Option It := match d with
  | .t (.lst l) => some (.xs (l.map .t))
  | .t (.tup l) => some (.xs (l.map .t))
  | .t (.wt l) => some (.xs (l.map .t))
  | .h k => match st[k]? with
    | some (.lst _) => some (.hl k)
    | _ => none
  | _ => none
/-- a list (true) or a tuple -/
def seqK (st : Store) (d : D) : Option Bool := match d with
  | .t (.lst _) => some true
  | .t (.tup _) => some false
  | .t (.wt _) => some false
  | .h k => match st[k]? with
    | some (.lst _) => some true
    | _ => none
  | _ => none
/- a target takes a value -/
mutual
def bindT : Tg → D → Env → Option Env
  | .nm i, d, ρ => if i < ρ.length then some (ρ.set i (some d)) else none
  | .tp l, .t (.tup xs), ρ => bindTs l xs ρ
  | .tp _, _, _ => none
def bindTs : Tgs → List T → Env → Option Env
  | .nil, [], ρ => some ρ
  | .cons g r, x :: xs, ρ => (bindT g (.t x) ρ).bind fun ρ => bindTs r xs ρ
  | _, _, _ => none
end
def wipeE (ρ : Env) : List Nat → Env
  | [] => ρ
  | v :: vs => (wipeE ρ vs).set v none

/-! ### built-ins -/
def intsOf : List D → Option (List Int)
  | [] => some []
  | .t (.int i) :: r => (intsOf r).map (i :: ·)
  | _ :: _ => none
def boolsOf : List D → Option (List Bool)
  | [] => some []
  | .t (.bl b) :: r => (boolsOf r).map (b :: ·)
  | _ :: _ => none
def goodL (xs : List T) : Bool := dataAll xs && alikes xs && decide (PyData.depthAll (pyAll xs) ≤ deepest) && xs.all fun x => !x.isNon
def cutN (n : Nat) (lo hi : Option Int) : Nat × Nat := (HT.sIx n 0 lo, HT.sIx n n hi - HT.sIx n 0 lo)
def cutL {α : Type} (xs : List α) (lo hi : Option Int) : List α := (xs.drop (HT.sIx xs.length 0 lo)).take (HT.sIx xs.length xs.length hi - HT.sIx xs.length 0 lo)
inductive Tag where | non | bool | int | str | list | tuple | dict | cls (c : String)
  deriving DecidableEq
def tagIs : Tag → Ty → Bool
  | .bool, .bool => true
  | .bool, .int => true
  | .int, .int => true
  | .str, .str => true
  | .list, .list => true
  | .tuple, .tuple => true
  | .dict, .dict => true
  | .cls c, .cls d => c == d
  | _, _ => false
def tagOk (P : Tab) : Tag → Bool
  | .cls c => (P.cls c).isSome
  | _ => true
/-- what isinstance looks at -/
def faceT : T → Option Tag
  | .non => some .non
  | .bl _ => some .bool
  | .int _ => some .int
  | .str _ => some .str
  | .tup _ => some .tuple
  | .lst _ => some .list
  | .ins c _ => some (.cls c)
  | .dct _ => some .dict
  | .wt _ => some .tuple
  | .fn _ => none
  | .scr _ => none
def faceD (st : Store) : D → Option Tag
  | .t x => faceT x
  | .h k => match st[k]? with
    | some (.lst _) => some .list
    | some (.dK _) => some .dict
    | some (.dT _) => some .dict
    | some (.ins c _) => some (.cls c)
    | _ => none
/-- a value as a tree, for a look (not kept) -/
def viewD (st : Store) : D → Option T
  | .t (.wt xs) => some (.tup xs)
  | .t x => some x
  | .h k => match st[k]? with
    | some (.lst xs) => (trees xs).map T.lst
    | _ => none
def cmpD (st : Store) (o : COp) (a b : D) : Option Bool := match o, a, b with
  | .is_, .h _, .t .non => some false
  | .isNot, .h _, .t .non => some true
  | .in_, .t (.tup ks), .h k => match st[k]? with
    | some (.dT kvs) => (intsOf (ks.map .t)).map fun ks => (kvs.lookup ks).isSome
    | _ => (viewD st b).bind fun y => cmpT .in_ (.tup ks) y
  | .notIn, .t (.tup ks), .h k => match st[k]? with
    | some (.dT kvs) => (intsOf (ks.map .t)).map fun ks => !(kvs.lookup ks).isSome
    | _ => (viewD st b).bind fun y => cmpT .notIn (.tup ks) y
  | o, a, b => (viewD st a).bind fun x => (viewD st b).bind fun y => cmpT o x y
/-- the same, but what is written stays written -/
def viewH (st : Store) : D → Option T
  | .t x => some x
  | .h k => match st[k]? with
    | some (.lst xs) => (trees xs).map T.lst
    | _ => none
def binD (st : Store) (o : BOp) (a b : D) : Option T := (viewH st a).bind fun x => (viewH st b).bind fun y => binT o x y
def lenD (st : Store) (d : D) : Option D := match d with
  | .t (.str s) => if s.length ≤ 16777216 then some (.t (.int (s.length : Int))) else none
  | d => (items st d).map fun xs => .t (.int (xs.length : Int))
def intD (d : D) : Option D := match d with
  | .t (.int i) => some (.t (.int i))
  | .t (.bl k) => some (.t (.int (if k then 1 else 0)))
  | _ => none
def tupD (st : Store) (d : D) : Option D := match d with
  | .t (.wt xs) => some (.t (.wt xs))
  | d => (items st d).bind fun xs => (trees xs).map fun ys => .t (.tup ys)
def sortD (st : Store) (d : D) : Option D := (litems st d).bind fun xs => (trees xs).bind fun ys => if goodL ys && sortable ys then some (.t (.lst (ys.mergeSort leT))) else none
def sumD (st : Store) (d : D) : Option D := (items st d).bind fun xs => (intsOf xs).map fun is => .t (.int is.sum)
def allD (st : Store) (d : D) : Option D := (litems st d).bind fun xs => (boolsOf xs).map fun bs => .t (.bl (bs.all id))
def anyD (st : Store) (d : D) : Option D := (litems st d).bind fun xs => (boolsOf xs).map fun bs => .t (.bl (bs.any id))
def minD1 (st : Store) (d : D) : Option D := (items st d).bind fun xs => (trees xs).bind fun ys => match ys with
  | [] => none
  | x :: r => if goodL (x :: r) then some (.t (minT x r)) else none
def maxD1 (st : Store) (d : D) : Option D := (items st d).bind fun xs => (trees xs).bind fun ys => match ys with
  | [] => none
  | x :: r => if goodL (x :: r) then some (.t (maxT x r)) else none
def minD2 (d e : D) : Option D := match d, e with
  | .t x, .t y => if goodL [x, y] then some (.t (minT x [y])) else none
  | _, _ => none
def maxD2 (d e : D) : Option D := match d, e with
  | .t x, .t y => if goodL [x, y] then some (.t (maxT x [y])) else none
  | _, _ => none
def T.isSeq : T → Bool
  | .tup _ | .lst _ => true
  | _ => false
def reprD (d : D) : Option D := match d with
  | .t x => if x.isSeq && x.data && x.py.showable && decide (x.py.depth ≤ deepest) && decide (x.py.shown.length ≤ 1000000) then some (.t (.str x.py.shown)) else none
  | _ => none
def one {α : Type} (ds : List D) (f : D → Option α) : Option α := match ds with
  | [d] => f d
  | _ => none
def oneTwo (ds : List D) (f : D → Option D) (g : D → D → Option D) : Option D := match ds with
  | [d] => f d
  | [d, e] => g d e
  | _ => none
def biD (b : Bi) (ds : List D) (st : Store) : Option D := match b with
  | .len => one ds (lenD st)
  | .int => one ds intD
  | .tuple => one ds (tupD st)
  | .sorted => one ds (sortD st)
  | .sum => one ds (sumD st)
  | .all => one ds (allD st)
  | .any => one ds (anyD st)
  | .min => oneTwo ds (minD1 st) minD2
  | .max => oneTwo ds (maxD1 st) maxD2
  | .repr => one ds reprD
  | _ => none
def bikD (b : Bi) (d e : D) (st : Store) : Option D := match b with
  | .max => (litems st d).bind fun xs => (trees xs).bind fun ys => match ys with
    | [] => some e
    | x :: r => if goodL (x :: r) then some (.t (maxT x r)) else none
  | _ => none

def ofOpt {α : Type} (st : Store) : Option α → R α
  | some a => .ok a st
  | none => .no
@[simp] theorem ofOpt_some {α : Type} (st : Store) (a : α) : ofOpt st (some a) = .ok a st := rfl
@[simp] theorem ofOpt_none {α : Type} (st : Store) : ofOpt st (none : Option α) = .no := rfl

def subD (st : Store) (o i : D) : Option D := match o, i with
  | .h k, .t (.tup ks) => match st[k]? with
    | some (.dT kvs) => (intsOf (ks.map .t)).bind fun ks => (kvs.lookup ks).map D.t
    | _ => none
  | o, .t (.int i) => (items st o).bind fun xs => (place xs.length i).bind fun j => xs[j]?
  | _, _ => none
def attD (st : Store) (o : D) (f : String) : Option D := match o with
  | .t (.ins _ fs) => (fs.lookup f).map D.t
  | .h k => match st[k]? with
    | some (.ins _ fs) => fs.lookup f
    | _ => none
  | _ => none
def clsD (st : Store) (o : D) : Option String := match o with
  | .t (.ins c _) => some c
  | .h k => match st[k]? with
    | some (.ins c _) => some c
    | _ => none
  | _ => none
def hasNot (st : Store) (o : D) (f : String) : Bool := match o with
  | .t (.ins _ fs) => (fs.lookup f).isNone
  | .h k => match st[k]? with
    | some (.ins _ fs) => (fs.lookup f).isNone
    | _ => false
  | _ => false
def tellH (e : Exn) (w : Str) (fs : List String) : Option D := match fs with
  | [f] => (e.fs.lookup f).map fun v => .t (.tup [.str w, v])
  | [f, g] => (e.fs.lookup f).bind fun v => (e.fs.lookup g).map fun u => .t (.tup [.str w, .tup [v, u]])
  | _ => none
def isSub (T : Tab) (c d : String) : Bool := match T.exc c with
  | some r => r.sup.contains d
  | none => false
def handle (T : Tab) (e : Exn) (st : Store) : List (String × Str × List String) → R D
  | [] => .no
  | (c, w, fs) :: r => if isSub T e.cls c then ofOpt st (tellH e w fs) else handle T e st r
def lamD (T : Tab) (L : LamR) (r : R D) : R D := match L, r with
  | .refused _, .ok _ st => .ok (.t (.tup [.str (Str.ofString ""), .non])) st
  | .refused hs, .ex e st => handle T e st hs
  | .answer _, .ok d st => .ok d st
  | .answer c, .ex e st => if isSub T e.cls c then .ok (.t .non) st else .no
  | _, .no => .no

/-- a field that may be read -/
def attF (P : Tab) (st : Store) (o : D) (f : String) : Option D := (clsD st o).bind fun c => if fldOk P c f then attD st o f else none
/-! ### the interpreter -/
section
variable (P : Tab) (cf : CallF)
mutual
def evalE : Ex → Env → Store → R D
  | .var i, ρ, st => (match ρ[i]? with
    | some (some d) => .ok d st
    | _ => .no)
  | .lit x, _, st => .ok (.t x) st
  | .glb x, _, st => (match P.con x with
    | some v => .ok (.t v) st
    | none => .no)
  | .bin o a b, ρ, st => (evalE a ρ st).bind fun x st => (evalE b ρ st).bind fun y st => (ofOpt st (binD st o x y)).bind fun z st => .ok (.t z) st
  | .neg a, ρ, st => (evalE a ρ st).bind fun x st => match x with
    | .t (.int i) => .ok (.t (.int (-i))) st
    | _ => .no
  | .nt a, ρ, st => (evalE a ρ st).bind fun x st => (ofOpt st (truth st x)).bind fun b st => .ok (.t (.bl (!b))) st
  | .and2 a b, ρ, st => (evalE a ρ st).bind fun x st => match x with
    | .t (.bl true) => evalE b ρ st
    | .t (.bl false) => .ok (.t (.bl false)) st
    | _ => .no
  | .or2 a b, ρ, st => (evalE a ρ st).bind fun x st => match x with
    | .t (.bl true) => .ok (.t (.bl true)) st
    | .t (.bl false) => evalE b ρ st
    | _ => .no
  | .ite c a b, ρ, st => (evalE c ρ st).bind fun x st => match truth st x with
    | some true => evalE a ρ st
    | some false => evalE b ρ st
    | none => .no
  | .cmp o a b, ρ, st => (evalE a ρ st).bind fun x st => (evalE b ρ st).bind fun y st => (ofOpt st (cmpD st o x y)).bind fun k st => .ok (.t (.bl k)) st
  | .chain o p a b c, ρ, st => (evalE a ρ st).bind fun x st => (evalE b ρ st).bind fun y st => (ofOpt st (cmpD st o x y)).bind fun k st => match k with
    | true => (evalE c ρ st).bind fun z st => (ofOpt st (cmpD st p y z)).bind fun k st => .ok (.t (.bl k)) st
    | false => .ok (.t (.bl false)) st
  | .tup es, ρ, st => (evalEs es ρ st).bind fun ds st => (ofOpt st (few ds)).bind fun ds st => (ofOpt st (trees ds)).bind fun xs st => .ok (.t (.tup xs)) st
  | .fr l, ρ, st => (evalL l ρ st).bind fun ds st => (ofOpt st (trees ds)).bind fun xs st => .ok (.t (.lst xs)) st
  | .mu l, ρ, st => (evalL l ρ st).bind fun ds st => .ok (.h st.length) (st ++ [.lst ds])
  | .mud, _, st => .ok (.h st.length) (st ++ [.dT []])
  | .sub a i, ρ, st => (evalE a ρ st).bind fun x st => (evalE i ρ st).bind fun y st => ofOpt st (subD st x y)
  | .cut a lo hi, ρ, st => (evalE a ρ st).bind fun x st => (evalO lo ρ st).bind fun l st => (evalO hi ρ st).bind fun u st => (ofOpt st (viewH st x)).bind fun x st => match x with
    | .lst xs => .ok (.t (.lst (cutL xs l u))) st
    | .tup xs => .ok (.t (.tup (cutL xs l u))) st
    | _ => .no
  | .rev a, ρ, st => (evalE a ρ st).bind fun x st => (ofOpt st (viewD st x)).bind fun x st => match x with
    | .lst xs => .ok (.t (.lst xs.reverse)) st
    | _ => .no
  | .call f es, ρ, st => (evalEs es ρ st).bind fun ds st => callD P cf f ds st
  | .calv i es, ρ, st => (match ρ[i]? with
    | some (some (.t (.fn f))) => if (P.fn f).isSome then (evalEs es ρ st).bind fun ds st => callD P cf f ds st else .no
    | _ => .no)
  | .new c es, ρ, st => (evalEs es ρ st).bind fun ds st => newD P cf c ds st
  | .bi b es, ρ, st => (evalEs es ρ st).bind fun ds st => ofOpt st (biD b ds st)
  | .bik b e d, ρ, st => (evalE e ρ st).bind fun x st => (evalE d ρ st).bind fun y st => ofOpt st (bikD b x y st)
  | .isi e cs, ρ, st => (evalE e ρ st).bind fun x st => (ofOpt st (faceD st x)).bind fun y st => if tagOk P y then .ok (.t (.bl (cs.any (tagIs y)))) st else .no
  | .att e f, ρ, st => (evalE e ρ st).bind fun x st => ofOpt st (attF P st x f)
  | .meth e m es, ρ, st => (evalE e ρ st).bind fun x st => (ofOpt st (clsD st x)).bind fun c st => if methOk P c m && hasNot st x m then (evalEs es ρ st).bind fun ds st => callD P cf (c ++ "." ++ m) (x :: ds) st else .no
  | .lam f b, ρ, st => (match P.lam f with
    | some L => lamD P L (evalE b ρ st)
    | none => .no)
def evalEs : Exs → Env → Store → R (List D)
  | .nil, _, st => .ok [] st
  | .cons e r, ρ, st => (evalE e ρ st).bind fun x st => (evalEs r ρ st).bind fun xs st => .ok (x :: xs) st
  | .star e r, ρ, st => (evalE e ρ st).bind fun x st => (ofOpt st (items st x)).bind fun ys st => (evalEs r ρ st).bind fun xs st => .ok (ys ++ xs) st
def evalO : Ox → Env → Store → R (Option Int)
  | .non, _, st => .ok none st
  | .som e, ρ, st => (evalE e ρ st).bind fun x st => match x with
    | .t (.int i) => .ok (some i) st
    | _ => .no
def condO : Ox → Env → Store → R Bool
  | .non, _, st => .ok true st
  | .som e, ρ, st => (evalE e ρ st).bind fun x st => ofOpt st (truth st x)
def evalL : Fl → Env → Store → R (List D)
  | .disp es, ρ, st => (evalEs es ρ st).bind fun ds st => ofOpt st (few ds)
  | .ofIt s, ρ, st => (evalI s ρ st).bind fun it st => ofOpt st (allI st it)
  | .cat a b, ρ, st => (evalE a ρ st).bind fun x st => (evalE b ρ st).bind fun y st => match x, y with
    | .t (.lst xs), .t (.lst ys) => if fits (xs.length + ys.length) then .ok ((xs ++ ys).map .t) st else .no
    | _, _ => .no
  | .rep e n, ρ, st => (evalE e ρ st).bind fun x st => (evalE n ρ st).bind fun k st => match k with
    | .t (.int j) => if 0 ≤ j ∧ j ≤ 1000000 then .ok (List.replicate j.toNat x) st else .no
    | _ => .no
  | .comp elt tg src cond own, ρ, st => (evalI src ρ st).bind fun it st =>
      compL it (fun d st => (ofOpt st (bindT tg d (wipeE ρ own))).bind fun ρ' st => (condO cond ρ' st).bind fun b st =>
        match b with
        | true => (evalE elt ρ' st).bind fun v st => .ok (some v) st
        | false => .ok none st) (lenI st it) 0 [] st
def evalI : Src → Env → Store → R It
  | .it e, ρ, st => (evalE e ρ st).bind fun x st => ofOpt st (itI st x)
  | .range es, ρ, st => (evalEs es ρ st).bind fun ds st => ofOpt st (rangeI ds)
  | .enum e, ρ, st => (evalE e ρ st).bind fun x st => (ofOpt st (itI st x)).bind fun i st => .ok (.en i) st
  | .zip a b, ρ, st => (evalE a ρ st).bind fun x st => (evalE b ρ st).bind fun y st => (ofOpt st (itI st x)).bind fun i st => (ofOpt st (itI st y)).bind fun j st => match seqK st x, seqK st y with
    | some true, some true => .ok (.zp i j) st
    | some false, some false => .ok (.zp i j) st
    | _, _ => .no
end
end

inductive Fw where
  | nx (ρ : Env) (st : Store) | rt (d : D) (st : Store) | bk (ρ : Env) (st : Store) | ex (e : Exn) (st : Store) | no
def Fw.of {α : Type} (r : R α) (f : α → Store → Fw) : Fw := match r with
  | .ok a st => f a st
  | .ex e st => .ex e st
  | .no => .no
@[simp] theorem Fw.of_ok {α : Type} (a : α) (s : Store) (f : α → Store → Fw) : Fw.of (R.ok a s) f = f a s := rfl
@[simp] theorem Fw.of_ex {α : Type} (e : Exn) (s : Store) (f : α → Store → Fw) : Fw.of (R.ex e s : R α) f = .ex e s := rfl
@[simp] theorem Fw.of_no {α : Type} (f : α → Store → Fw) : Fw.of (R.no : R α) f = .no := rfl
def Fw.nxt (w : Fw) (f : Env → Store → Fw) : Fw := match w with
  | .nx ρ st => f ρ st
  | w => w
@[simp] theorem Fw.nxt_nx (ρ : Env) (st : Store) (f : Env → Store → Fw) : (Fw.nx ρ st).nxt f = f ρ st := rfl
@[simp] theorem Fw.nxt_rt (d : D) (st : Store) (f : Env → Store → Fw) : (Fw.rt d st).nxt f = .rt d st := rfl
@[simp] theorem Fw.nxt_bk (ρ : Env) (st : Store) (f : Env → Store → Fw) : (Fw.bk ρ st).nxt f = .bk ρ st := rfl
@[simp] theorem Fw.nxt_ex (e : Exn) (st : Store) (f : Env → Store → Fw) : (Fw.ex e st).nxt f = .ex e st := rfl
@[simp] theorem Fw.nxt_no (f : Env → Store → Fw) : Fw.no.nxt f = .no := rfl

def setMany : List Nat → List D → Env → Option Env
  | [], [], ρ => some ρ
  | i :: is, d :: ds, ρ => if i < ρ.length then setMany is ds (ρ.set i (some d)) else none
  | _, _, _ => none
/-- o[i] = v -/
def setD (st : Store) (o i v : D) : Option Store := match o, i with
  | .h k, .t (.int j) => (match st[k]? with
    | some (.lst xs) => (place xs.length j).map fun m => st.set k (.lst (xs.set m v))
    | _ => none)
  | .h k, .t (.tup ks) => (match st[k]?, v with
    | some (.dT kvs), .t x => (intsOf (ks.map .t)).bind fun ks => if kvs.lookup ks = none ∧ kvs.length < 1000000 then some (st.set k (.dT (kvs ++ [(ks, x)]))) else none
    | _, _ => none)
  | _, _ => none
def putF (f : String) (v : D) : List (String × D) → List (String × D)
  | [] => [(f, v)]
  | (g, x) :: r => if g = f then (g, v) :: r else (g, x) :: putF f v r
def setAt (P : Tab) (st : Store) (o : D) (f : String) (v : D) : Option Store := match o with
  | .h k => (match st[k]? with
    | some (.ins c fs) => if fs.length < 900 ∧ fldOk P c f then some (st.set k (.ins c (putF f v fs))) else none
    | _ => none)
  | _ => none
def changeL (st : Store) (o : D) (f : List D → Option (List D)) : Option Store := match o with
  | .h k => (match st[k]? with
    | some (.lst xs) => (f xs).map fun ys => st.set k (.lst ys)
    | _ => none)
  | _ => none
def forL (it : It) (tg : Tg) (body : Env → Store → Fw) : Nat → Nat → Env → Store → Fw
  | n, i, ρ, st => match getI st i it with
    | some none => .nx ρ st
    | some (some d) => (match n with
      | 0 => .no
      | n + 1 => (match bindT tg d ρ with
        | some ρ' => (match body ρ' st with
          | .nx ρ'' st'' => forL it tg body n (i + 1) ρ'' st''
          | .bk ρ'' st'' => .nx ρ'' st''
          | w => w)
        | none => .no))
    | none => .no
def whileL (c : Env → Store → R D) (body : Env → Store → Fw) : Nat → Env → Store → Fw
  | 0, _, _ => .no
  | n + 1, ρ, st => Fw.of (c ρ st) fun x st => match truth st x with
    | some true => (match body ρ st with
      | .nx ρ'' st'' => whileL c body n ρ'' st''
      | .bk ρ'' st'' => .nx ρ'' st''
      | w => w)
    | some false => .nx ρ st
    | none => .no
def whileFuel : Nat := 1000000
def isLst (st : Store) (o : D) : Bool := match o with
  | .h k => (match st[k]? with
    | some (.lst _) => true
    | _ => false)
  | _ => false
/-- an exception is made -/
def mkExn (P : Tab) (c : String) (ds : List D) : Option Exn := match P.exc c with
  | some r => (trees ds).bind fun xs => match r.flds, xs with
    | [f], [x] => some ⟨c, [(f, x)]⟩
    | [f, g], [x, y] => some ⟨c, [(g, y), (f, x)]⟩
    | _, _ => none
  | none => none
section
variable (P : Tab) (cf : CallF)
mutual
def execS : Sm → Env → Store → Fw
  | .asg g e, ρ, st => Fw.of (evalE P cf e ρ st) fun d st => match bindT g d ρ with
    | some ρ => .nx ρ st
    | none => .no
  | .par is es, ρ, st => Fw.of (evalEs P cf es ρ st) fun ds st => match setMany is ds ρ with
    | some ρ => .nx ρ st
    | none => .no
  | .aug i o e, ρ, st => (match ρ[i]? with
    | some (some (.t x)) => Fw.of (evalE P cf e ρ st) fun d st => (match d with
      | .t y => (match augT o x y with
        | some z => .nx (ρ.set i (some (.t z))) st
        | none => .no)
      | _ => .no)
    | _ => .no)
  | .setI o i e, ρ, st => Fw.of (evalE P cf e ρ st) fun v st => Fw.of (evalE P cf o ρ st) fun a st => Fw.of (evalE P cf i ρ st) fun b st => match setD st a b v with
    | some st => .nx ρ st
    | none => .no
  | .augI o i op e, ρ, st => Fw.of (evalE P cf o ρ st) fun a st => Fw.of (evalE P cf i ρ st) fun b st => match subD st a b with
    | some (.t x) => Fw.of (evalE P cf e ρ st) fun d st => (match d with
      | .t y => (match augT op x y with
        | some z => (match setD st a b (.t z) with
          | some st => .nx ρ st
          | none => .no)
        | none => .no)
      | _ => .no)
    | _ => .no
  | .setA o f e, ρ, st => Fw.of (evalE P cf e ρ st) fun v st => Fw.of (evalE P cf o ρ st) fun a st => match setAt P st a f v with
    | some st => .nx ρ st
    | none => .no
  | .augA o f op e, ρ, st => Fw.of (evalE P cf o ρ st) fun a st => match attF P st a f, clsD st a with
    | some (.t x), some C => Fw.of (evalE P cf e ρ st) fun d st => if clsD st a = some C then (match d with
      | .t y => (match augT op x y with
        | some z => (match setAt P st a f (.t z) with
          | some st => .nx ρ st
          | none => .no)
        | none => .no)
      | _ => .no) else .no
    | _, _ => .no
  | .ex e, ρ, st => Fw.of (evalE P cf e ρ st) fun _ st => .nx ρ st
  | .app o e, ρ, st => Fw.of (evalE P cf o ρ st) fun a st => if isLst st a then Fw.of (evalE P cf e ρ st) (fun d st => match changeL st a (fun xs => if fits xs.length then some (xs ++ [d]) else none) with
    | some st => .nx ρ st
    | none => .no) else .no
  | .inst o i e, ρ, st => Fw.of (evalE P cf o ρ st) fun a st => if isLst st a then Fw.of (evalE P cf i ρ st) (fun b st => Fw.of (evalE P cf e ρ st) fun d st => match b with
    | .t (.int 0) => (match changeL st a (fun xs => if fits xs.length then some (d :: xs) else none) with
      | some st => .nx ρ st
      | none => .no)
    | _ => .no) else .no
  | .ext o e, ρ, st => Fw.of (evalE P cf o ρ st) fun a st => if isLst st a then Fw.of (evalE P cf e ρ st) (fun d st => match d with
    | .t (.lst ys) => (match changeL st a (fun xs => if fits (xs.length + ys.length) then some (xs ++ ys.map .t) else none) with
      | some st => .nx ρ st
      | none => .no)
    | _ => .no) else .no
  | .ret e, ρ, st => Fw.of (evalE P cf e ρ st) fun d st => .rt d st
  | .if_ c a b, ρ, st => Fw.of (evalE P cf c ρ st) fun x st => match truth st x with
    | some true => execSs a ρ st
    | some false => execSs b ρ st
    | none => .no
  | .whl c b, ρ, st => whileL (fun ρ st => evalE P cf c ρ st) (fun ρ st => execSs b ρ st) whileFuel ρ st
  | .for_ g s b, ρ, st => Fw.of (evalI P cf s ρ st) fun it st => forL it g (fun ρ st => execSs b ρ st) (lenI st it) 0 ρ st
  | .brk, ρ, st => .bk ρ st
  | .pass_, ρ, st => .nx ρ st
  | .raise c es, ρ, st => Fw.of (evalEs P cf es ρ st) fun ds st => match mkExn P c ds with
    | some e => .ex e st
    | none => .no
  | .frz i, ρ, st => (match ρ[i]? with
    | some (some (.h k)) => (match st[k]? with
      | some (.lst xs) => (match trees xs with
        | some ys => .nx (ρ.set i (some (.t (.lst ys)))) (st.set k .dead)
        | none => .no)
      | _ => .no)
    | _ => .no)
def execSs : Sms → Env → Store → Fw
  | .nil, ρ, st => .nx ρ st
  | .cons s r, ρ, st => (execS s ρ st).nxt fun ρ st => execSs r ρ st
end
end
def startE (F : Fn) (args : List D) : Env := args.map some ++ List.replicate (F.N.length - args.length) none
def endF : Fw → R D
  | .nx _ st => .ok (.t .non) st
  | .rt d st => .ok d st
  | .ex e st => .ex e st
  | .bk _ _ => .no
  | .no => .no
def callN (P : Tab) : Nat → CallF
  | 0 => fun _ _ _ => .no
  | n + 1 => fun f args st => match P.fn f with
    | some F => if args.length = F.np then endF (execSs P (callN P n) F.body (startE F args) st) else .no
    | none => .no
end Ice
end

section
set_option Elab.async false
set_option linter.all false
set_option maxRecDepth 100000
set_option maxHeartbeats 4000000
namespace Ice
open PySem PySem.Spec PyProof.Rows L2

/-- where classes and defs lie -/
structure Lay where
  cA : String → Addr
  fA : String → Addr
  fN : String → Str
  inj : ∀ f g, fN f = fN g → f = g
/-- what is still (S), where the handles' objects lie, the store -/
structure Cfg where
  S : Hp
  φ : Nat → Addr
  st : Store

abbrev nm (s : String) : Str := Str.ofString s
/-- a method's name -/
def dotted (f : String) : Bool := (nm f).cps.toList.contains 46
section
variable (K : PySem.W.Frag) (Λ : Lay)
mutual
def Den (S : Hp) : T → V → Prop
  | .non, v => v = .non
  | .bl b, v => v = .bl b
  | .int i, v => v = .int i
  | .str s, v => v = .str s
  | .tup xs, v => ∃ a vs, v = .ref a ∧ S a = some (.tup vs) ∧ Dens S xs vs
  | .lst xs, v => ∃ a vs, v = .ref a ∧ S a = some (.lst vs) ∧ Dens S xs vs
  | .ins c fs, v => ∃ a dx fv, v = .ref a ∧ S a = some (.ins (Λ.cA c) dx fv) ∧ DenFs S fs fv
  | .dct kvs, v => ∃ a kv, v = .ref a ∧ S a = some (.dK kv) ∧ DenKs S kvs kv
  | .fn f, v => v = .ref (Λ.fA f)
  | .scr ns, v => ∃ a, v = .ref a ∧ SqL K S a (ns.map V.int)
  | .wt xs, v => ∃ a vs, v = .ref a ∧ SqT K S a vs ∧ Dens S xs vs
def Dens (S : Hp) : List T → List V → Prop
  | [], vs => vs = []
  | x :: xs, vs => ∃ v r, vs = v :: r ∧ Den S x v ∧ Dens S xs r
def DenFs (S : Hp) : List (String × T) → List (Str × V) → Prop
  | [], vs => vs = []
  | x :: xs, vs => ∃ v r, vs = (Λ.fN x.1, v) :: r ∧ Den S x.2 v ∧ DenFs S xs r
def DenKs (S : Hp) : List (Str × T) → List (Key × V) → Prop
  | [], vs => vs = []
  | x :: xs, vs => ∃ v r, vs = (Sum.inr x.1, v) :: r ∧ Den S x.2 v ∧ DenKs S xs r
end
def DenD (c : Cfg) : D → V → Prop
  | .t x, v => Den K Λ c.S x v
  | .h k, v => k < c.st.length ∧ v = .ref (c.φ k)
def DensD (c : Cfg) : List D → List V → Prop
  | [], vs => vs = []
  | x :: xs, vs => ∃ v r, vs = v :: r ∧ DenD K Λ c x v ∧ DensD c xs r
def DenFD (c : Cfg) : List (String × D) → List (Str × V) → Prop
  | [], vs => vs = []
  | x :: xs, vs => ∃ v r, vs = (Λ.fN x.1, v) :: r ∧ DenD K Λ c x.2 v ∧ DenFD c xs r
def DenTs (S : Hp) : List (List Int × T) → List (List Key × V) → Prop
  | [], vs => vs = []
  | x :: xs, vs => ∃ v r, vs = (x.1.map Sum.inl, v) :: r ∧ Den K Λ S x.2 v ∧ DenTs S xs r
def ObjR (c : Cfg) : O → Option HO → Prop
  | .lst xs, ho => ∃ vs, ho = some (.lst vs) ∧ DensD K Λ c xs vs
  | .dT kvs, ho => ∃ kv, ho = some (.dT kv) ∧ DenTs K Λ c.S kvs kv
  | .dK kvs, ho => ∃ kv, ho = some (.dK kv) ∧ DenKs K Λ c.S kvs kv
  | .ins C fs, ho => ∃ dx fv, ho = some (.ins (Λ.cA C) dx fv) ∧ DenFD K Λ c fs fv
  | .dead, _ => True
def Live (st : Store) (k : Nat) : Prop := ∃ o, st[k]? = some o ∧ o ≠ .dead
abbrev isTbl (o : HO) : Prop := ∃ ps, o = .tbl ps
/-- nothing stands there but a table -/
def Free (H : Hp) (a : Addr) : Prop := ∀ o, H a = some o → isTbl o
theorem Free.of {H : Hp} {a : Addr} (h : H a = none) : Free H a := fun o e => by rw [h] at e; cases e
structure Rel (TB : List (Addr × Str)) (c : Cfg) (H : Hp) : Prop where
  sub : ∀ a o, c.S a = some o → H a = some o
  not : ∀ a ps, c.S a ≠ some (.tbl ps)
  obj : ∀ (k : Nat) (o : O), c.st[k]? = some o → o ≠ .dead → ObjR K Λ c o (H (c.φ k)) ∧ c.S (c.φ k) = none
  inj : ∀ j k, Live c.st j → Live c.st k → c.φ j = c.φ k → j = k
  tab : LamX.Tabs TB H
structure After (TB : List (Addr × Str)) (c : Cfg) (H : Hp) (c' : Cfg) (H' : Hp) : Prop where
  sub : ∀ a o, c.S a = some o → c'.S a = some o
  phi : ∀ k, k < c.st.length → c'.φ k = c.φ k
  len : c.st.length ≤ c'.st.length
  keep : ∀ a o, H a = some o → ¬ isTbl o → (∀ k, Live c.st k → c.φ k ≠ a) → H' a = some o
  there : ∀ a o, H a = some o → ¬ isTbl o → ∃ o', H' a = some o' ∧ ¬ isTbl o'
  fresh : ∀ k, c.st.length ≤ k → Live c'.st k → Free H (c'.φ k)
  dead : ∀ k : Nat, c.st[k]? = some O.dead → c'.st[k]? = some O.dead
  own : ∀ a o, c'.S a = some o → c.S a = none → Free H a ∨ ∃ k, Live c.st k ∧ c.φ k = a
  rel : Rel K Λ TB c' H'
def EnvR (c : Cfg) (ρ : Env) (σ : L2.St) : Prop := ρ.length = σ.length ∧ ∀ (i : Nat) (d : D), ρ[i]? = some (some d) → ∃ v, σ[i]? = some (some v) ∧ DenD K Λ c d v
end

section
variable {K : PySem.W.Frag} {Λ : Lay}
theorem SqT.mono {S S' : Hp} {a : Addr} {vs : List V} (e : ∀ a o, S a = some o → S' a = some o) (h : SqT K S a vs) : SqT K S' a vs := by
  rcases h with (h | ⟨o, h⟩) | h
  · exact .inl (.inl (e _ _ h))
  · exact .inl (.inr ⟨o, e _ _ h⟩)
  · exact .inr h
theorem SqL.mono {S S' : Hp} {a : Addr} {vs : List V} (e : ∀ a o, S a = some o → S' a = some o) (h : SqL K S a vs) : SqL K S' a vs := by
  rcases h with (h | ⟨o, h⟩) | h
  · exact .inl (.inl (e _ _ h))
  · exact .inl (.inr ⟨o, e _ _ h⟩)
  · exact .inr h
mutual
theorem Den.mono {S S' : Hp} (e : ∀ a o, S a = some o → S' a = some o) : ∀ (x : T) (v : V), Den K Λ S x v → Den K Λ S' x v
  | .non, _, h => h
  | .bl _, _, h => h
  | .int _, _, h => h
  | .str _, _, h => h
  | .tup xs, v, h => by
    simp only [Den] at h ⊢
    obtain ⟨a, vs, e1, e2, e3⟩ := h
    exact ⟨a, vs, e1, e _ _ e2, Dens.mono e xs vs e3⟩
  | .lst xs, v, h => by
    simp only [Den] at h ⊢
    obtain ⟨a, vs, e1, e2, e3⟩ := h
    exact ⟨a, vs, e1, e _ _ e2, Dens.mono e xs vs e3⟩
  | .ins c fs, v, h => by
    simp only [Den] at h ⊢
    obtain ⟨a, dx, fv, e1, e2, e3⟩ := h
    exact ⟨a, dx, fv, e1, e _ _ e2, DenFs.mono e fs fv e3⟩
  | .dct kvs, v, h => by
    simp only [Den] at h ⊢
    obtain ⟨a, kv, e1, e2, e3⟩ := h
    exact ⟨a, kv, e1, e _ _ e2, DenKs.mono e kvs kv e3⟩
  | .fn _, _, h => h
  | .scr ns, v, h => by
    simp only [Den] at h ⊢
    obtain ⟨a, e1, e2⟩ := h
    exact ⟨a, e1, SqL.mono e e2⟩
  | .wt xs, v, h => by
    simp only [Den] at h ⊢
    obtain ⟨a, vs, e1, e2, e3⟩ := h
    exact ⟨a, vs, e1, SqT.mono e e2, Dens.mono e xs vs e3⟩
theorem Dens.mono {S S' : Hp} (e : ∀ a o, S a = some o → S' a = some o) : ∀ (xs : List T) (vs : List V), Dens K Λ S xs vs → Dens K Λ S' xs vs
  | [], _, h => h
  | x :: xs, vs, h => by
    simp only [Dens] at h ⊢
    obtain ⟨v, r, e1, e2, e3⟩ := h
    exact ⟨v, r, e1, Den.mono e x v e2, Dens.mono e xs r e3⟩
theorem DenFs.mono {S S' : Hp} (e : ∀ a o, S a = some o → S' a = some o) : ∀ (xs : List (String × T)) (vs : List (Str × V)), DenFs K Λ S xs vs → DenFs K Λ S' xs vs
  | [], _, h => h
  | x :: xs, vs, h => by
    simp only [DenFs] at h ⊢
    obtain ⟨v, r, e1, e2, e3⟩ := h
    exact ⟨v, r, e1, Den.mono e x.2 v e2, DenFs.mono e xs r e3⟩
theorem DenKs.mono {S S' : Hp} (e : ∀ a o, S a = some o → S' a = some o) : ∀ (xs : List (Str × T)) (vs : List (Key × V)), DenKs K Λ S xs vs → DenKs K Λ S' xs vs
  | [], _, h => h
  | x :: xs, vs, h => by
    simp only [DenKs] at h ⊢
    obtain ⟨v, r, e1, e2, e3⟩ := h
    exact ⟨v, r, e1, Den.mono e x.2 v e2, DenKs.mono e xs r e3⟩
end
/-- what a configuration may do so that values stay -/
structure Ext (c c' : Cfg) : Prop where
  sub : ∀ a o, c.S a = some o → c'.S a = some o
  phi : ∀ k, k < c.st.length → c'.φ k = c.φ k
  len : c.st.length ≤ c'.st.length
theorem Ext.refl (c : Cfg) : Ext c c := ⟨fun _ _ h => h, fun _ _ => rfl, Nat.le_refl _⟩
theorem Ext.trans {a b c : Cfg} (x : Ext a b) (y : Ext b c) : Ext a c :=
  ⟨fun p o h => y.sub p o (x.sub p o h), fun k h => (y.phi k (Nat.lt_of_lt_of_le h x.len)).trans (x.phi k h), Nat.le_trans x.len y.len⟩
theorem DenD.mono {c c' : Cfg} (e : Ext c c') : ∀ (d : D) (v : V), DenD K Λ c d v → DenD K Λ c' d v
  | .t x, v, h => Den.mono e.sub x v h
  | .h k, v, h => ⟨Nat.lt_of_lt_of_le h.1 e.len, by rw [e.phi k h.1]; exact h.2⟩
theorem DensD.mono {c c' : Cfg} (e : Ext c c') : ∀ (ds : List D) (vs : List V), DensD K Λ c ds vs → DensD K Λ c' ds vs
  | [], _, h => h
  | d :: ds, vs, h => by
    obtain ⟨v, r, e1, e2, e3⟩ := h
    exact ⟨v, r, e1, DenD.mono e d v e2, DensD.mono e ds r e3⟩
theorem DenFD.mono {c c' : Cfg} (e : Ext c c') : ∀ (ds : List (String × D)) (vs : List (Str × V)), DenFD K Λ c ds vs → DenFD K Λ c' ds vs
  | [], _, h => h
  | d :: ds, vs, h => by
    obtain ⟨v, r, e1, e2, e3⟩ := h
    exact ⟨v, r, e1, DenD.mono e d.2 v e2, DenFD.mono e ds r e3⟩
theorem DenTs.mono {S S' : Hp} (e : ∀ a o, S a = some o → S' a = some o) : ∀ (ds : List (List Int × T)) (vs : List (List Key × V)), DenTs K Λ S ds vs → DenTs K Λ S' ds vs
  | [], _, h => h
  | d :: ds, vs, h => by
    obtain ⟨v, r, e1, e2, e3⟩ := h
    exact ⟨v, r, e1, Den.mono e d.2 v e2, DenTs.mono e ds r e3⟩
theorem ObjR.mono {c c' : Cfg} (e : Ext c c') (o : O) (ho : Option HO) (h : ObjR K Λ c o ho) : ObjR K Λ c' o ho := by
  cases o with
  | lst xs => obtain ⟨vs, e1, e2⟩ := h; exact ⟨vs, e1, DensD.mono e xs vs e2⟩
  | dT kvs => obtain ⟨vs, e1, e2⟩ := h; exact ⟨vs, e1, DenTs.mono e.sub kvs vs e2⟩
  | dK kvs => obtain ⟨vs, e1, e2⟩ := h; exact ⟨vs, e1, DenKs.mono e.sub kvs vs e2⟩
  | ins C fs => obtain ⟨dx, fv, e1, e2⟩ := h; exact ⟨dx, fv, e1, DenFD.mono e fs fv e2⟩
  | dead => trivial
theorem EnvR.mono {c c' : Cfg} {ρ : Env} {σ : L2.St} (e : Ext c c') (h : EnvR K Λ c ρ σ) : EnvR K Λ c' ρ σ :=
  ⟨h.1, fun i d hd => let ⟨v, h1, h2⟩ := h.2 i d hd; ⟨v, h1, DenD.mono e d v h2⟩⟩
variable {TB : List (Addr × Str)} {c c' c1 c2 : Cfg} {H H' H1 H2 : Hp}
theorem After.ext (a : After K Λ TB c H c' H') : Ext c c' := ⟨a.sub, a.phi, a.len⟩
theorem Live.lt {st : Store} {k : Nat} (h : Live st k) : k < st.length := by
  obtain ⟨o, h, _⟩ := h
  exact (List.getElem?_eq_some_iff.mp h).1
theorem After.refl (r : Rel K Λ TB c H) : After K Λ TB c H c H :=
  ⟨fun _ _ h => h, fun _ _ => rfl, Nat.le_refl _, fun _ _ h _ _ => h, fun _ o h n => ⟨o, h, n⟩, fun k hk hl => absurd hl.lt (Nat.not_lt.mpr hk), fun _ h => h, fun a o h n => (by rw [h] at n; cases n), r⟩
/-- what was not live does not come to life -/
theorem After.liveBack (a : After K Λ TB c H c' H') {k : Nat} (hk : k < c.st.length) (h : Live c'.st k) : Live c.st k := by
  refine ⟨c.st[k], List.getElem?_eq_getElem hk, fun e => ?_⟩
  have q := a.dead k (by rw [List.getElem?_eq_getElem hk, e])
  obtain ⟨o, h1, h2⟩ := h
  rw [q] at h1
  exact h2 (Option.some.inj h1).symm
theorem After.free (a : After K Λ TB c H c' H') {p : Addr} (z : Free H' p) : Free H p := fun o e => Classical.byContradiction fun n => by
  obtain ⟨o1, h1, n1⟩ := a.there p o e n
  exact n1 (z o1 h1)
theorem After.trans (a : After K Λ TB c H c1 H1) (b : After K Λ TB c1 H1 c2 H2) : After K Λ TB c H c2 H2 := by
  refine ⟨fun p o h => b.sub p o (a.sub p o h), fun k h => (b.phi k (Nat.lt_of_lt_of_le h a.len)).trans (a.phi k h), Nat.le_trans a.len b.len, fun p o h n l => ?_, fun p o h n => ?_, fun k hk hl => ?_, fun k h => b.dead k (a.dead k h), fun p o h n => ?_, b.rel⟩
  · refine b.keep p o (a.keep p o h n l) n fun k hk e => ?_
    by_cases hlt : k < c.st.length
    · exact l k (a.liveBack hlt hk) ((a.phi k hlt).symm.trans e)
    · exact n (a.fresh k (Nat.le_of_not_lt hlt) hk o (by rw [e]; exact h))
  · obtain ⟨o1, h1, n1⟩ := a.there p o h n
    exact b.there p o1 h1 n1
  · by_cases hlt : k < c1.st.length
    · have q := a.fresh k hk (b.liveBack hlt hl)
      rw [b.phi k hlt]
      exact q
    · exact a.free (b.fresh k (Nat.le_of_not_lt hlt) hl)
  · cases e1 : c1.S p with
    | some u => exact a.own p u e1 n
    | none =>
      rcases b.own p o h e1 with z | ⟨k, l, z⟩
      · exact .inl (a.free z)
      · by_cases hlt : k < c.st.length
        · exact .inr ⟨k, a.liveBack hlt l, by rw [← a.phi k hlt]; exact z⟩
        · have q := a.fresh k (Nat.le_of_not_lt hlt) l
          rw [z] at q
          exact .inl q
/-- a new object, still -/
theorem After.new {p : Addr} {o : HO} (r : Rel K Λ TB c H) (hp : H p = none) (ho : ¬ isTbl o) : After K Λ TB c H ⟨upd c.S p o, c.φ, c.st⟩ (upd H p o) := by
  have hS : c.S p = none := by
    cases e : c.S p with
    | none => rfl
    | some u => rw [r.sub p u e] at hp; cases hp
  have sub : ∀ a u, c.S a = some u → upd c.S p o a = some u := fun a u e => by rw [upd_ne (ne_of_none e hS)]; exact e
  have hφ : ∀ k, Live c.st k → c.φ k ≠ p := fun k ⟨u, h1, h2⟩ e => by
    have q := (r.obj k u h1 h2).1
    rw [e, hp] at q
    cases u with
    | lst xs => obtain ⟨vs, z, _⟩ := q; cases z
    | dT kvs => obtain ⟨vs, z, _⟩ := q; cases z
    | dK kvs => obtain ⟨vs, z, _⟩ := q; cases z
    | ins C fs => obtain ⟨dx, vs, z, _⟩ := q; cases z
    | dead => exact h2 rfl
  have ex : Ext c ⟨upd c.S p o, c.φ, c.st⟩ := ⟨sub, fun _ _ => rfl, Nat.le_refl _⟩
  refine ⟨sub, fun _ _ => rfl, Nat.le_refl _, fun a u e _ _ => by rw [upd_ne (ne_of_none e hp)]; exact e, fun a u e n => ⟨u, by rw [upd_ne (ne_of_none e hp)]; exact e, n⟩, fun k hk hl => absurd hl.lt (Nat.not_lt.mpr hk), fun _ h => h, fun a u e n => ?_,
    ⟨fun a u e => ?_, fun a ps e => ?_, fun k u h1 h2 => ?_, r.inj, ?_⟩⟩
  · by_cases h : a = p
    · rw [h]
      exact .inl (Free.of hp)
    · have e' : upd c.S p o a = some u := e
      rw [upd_ne h, n] at e'
      cases e'
  · have e' : upd c.S p o a = some u := e
    by_cases h : a = p
    · subst h
      rw [upd_same] at e' ⊢
      exact e'
    · rw [upd_ne h] at e' ⊢
      exact r.sub a u e'
  · by_cases h : a = p
    · subst h
      have e' : upd c.S a o a = some (.tbl ps) := e
      rw [upd_same] at e'
      cases e'
      exact ho ⟨_, rfl⟩
    · have e' : upd c.S p o a = some (.tbl ps) := e
      rw [upd_ne h] at e'
      exact r.not a ps e'
  · have hk := hφ k ⟨u, h1, h2⟩
    obtain ⟨q1, q2⟩ := r.obj k u h1 h2
    show ObjR K Λ _ u (upd H p o (c.φ k)) ∧ upd c.S p o (c.φ k) = none
    rw [upd_ne hk, upd_ne hk]
    exact ⟨ObjR.mono ex u _ q1, q2⟩
  · exact r.tab.ext fun b u e => by rw [upd_ne (ne_of_none e hp)]; exact e
theorem ObjR.some_of {o : O} {ho : Option HO} (h : ObjR K Λ c o ho) (hd : o ≠ .dead) : ∃ u, ho = some u ∧ ¬ isTbl u := by
  cases o with
  | lst xs => obtain ⟨vs, z, _⟩ := h; exact ⟨_, z, fun ⟨_, q⟩ => by cases q⟩
  | dT kvs => obtain ⟨vs, z, _⟩ := h; exact ⟨_, z, fun ⟨_, q⟩ => by cases q⟩
  | dK kvs => obtain ⟨vs, z, _⟩ := h; exact ⟨_, z, fun ⟨_, q⟩ => by cases q⟩
  | ins C fs => obtain ⟨dx, vs, z, _⟩ := h; exact ⟨_, z, fun ⟨_, q⟩ => by cases q⟩
  | dead => exact absurd rfl hd
theorem Rel.none_ne (r : Rel K Λ TB c H) {p : Addr} (hp : H p = none) {k : Nat} (l : Live c.st k) : c.φ k ≠ p := fun e => by
  obtain ⟨o, h1, h2⟩ := l
  obtain ⟨u, hu, _⟩ := ObjR.some_of (r.obj k o h1 h2).1 h2
  rw [e, hp] at hu
  cases hu
theorem Rel.free_ne (r : Rel K Λ TB c H) {p : Addr} (hp : Free H p) {k : Nat} (l : Live c.st k) : c.φ k ≠ p := fun e => by
  obtain ⟨o, h1, h2⟩ := l
  obtain ⟨u, hu, nt⟩ := ObjR.some_of (r.obj k o h1 h2).1 h2
  exact nt (hp u (by rw [← e]; exact hu))
def snoc (φ : Nat → Addr) (n : Nat) (p : Addr) : Nat → Addr := fun k => if k = n then p else φ k
theorem snoc_same (φ : Nat → Addr) (n : Nat) (p : Addr) : snoc φ n p n = p := if_pos rfl
theorem snoc_ne {φ : Nat → Addr} {n k : Nat} {p : Addr} (h : k ≠ n) : snoc φ n p k = φ k := if_neg h
/-- a new object, with a handle -/
theorem After.alloc {p : Addr} {ho : HO} {o : O} (r : Rel K Λ TB c H) (hp : H p = none) (ht : ¬ isTbl ho)
    (hr : ObjR K Λ ⟨c.S, snoc c.φ c.st.length p, c.st ++ [o]⟩ o (some ho)) : After K Λ TB c H ⟨c.S, snoc c.φ c.st.length p, c.st ++ [o]⟩ (upd H p ho) := by
  have hS : c.S p = none := by
    cases e : c.S p with
    | none => rfl
    | some u => rw [r.sub p u e] at hp; cases hp
  have phi : ∀ k, k < c.st.length → snoc c.φ c.st.length p k = c.φ k := fun k h => snoc_ne (Nat.ne_of_lt h)
  have ex : Ext c ⟨c.S, snoc c.φ c.st.length p, c.st ++ [o]⟩ := ⟨fun _ _ h => h, phi, by simp⟩
  have old : ∀ {k : Nat} {u : O}, (c.st ++ [o])[k]? = some u → k < c.st.length → c.st[k]? = some u := fun {k u} h hk => by rwa [List.getElem?_append_left hk] at h
  have last : ∀ {k : Nat} {u : O}, (c.st ++ [o])[k]? = some u → ¬ k < c.st.length → k = c.st.length ∧ u = o := fun {k u} h hk => by
    have hlt := (List.getElem?_eq_some_iff.mp h).1
    rw [List.length_append, List.length_singleton] at hlt
    have e : k = c.st.length := by omega
    subst e
    rw [List.getElem?_append_right (Nat.le_refl _), Nat.sub_self] at h
    exact ⟨rfl, (Option.some.inj h).symm⟩
  refine ⟨fun _ _ h => h, phi, by simp, fun a u e _ _ => by rw [upd_ne (ne_of_none e hp)]; exact e, fun a u e n => ⟨u, by rw [upd_ne (ne_of_none e hp)]; exact e, n⟩, fun k hk ⟨u, h1, h2⟩ => ?_, fun k h => ?_, fun a u e n => (by have e' : c.S a = some u := e; rw [n] at e'; cases e'), ⟨fun a u e => ?_, r.not, fun k u h1 h2 => ?_, fun j k hj hk e => ?_, ?_⟩⟩
  · obtain ⟨e, _⟩ := last h1 (Nat.not_lt.mpr hk)
    rw [e]
    show Free H (snoc c.φ c.st.length p c.st.length)
    rw [snoc_same]
    exact Free.of hp
  · rw [List.getElem?_append_left (List.getElem?_eq_some_iff.mp h).1]
    exact h
  · have e' : c.S a = some u := e
    rw [upd_ne (ne_of_none e' hS)]
    exact r.sub a u e'
  · by_cases hk : k < c.st.length
    · have q := old h1 hk
      obtain ⟨q1, q2⟩ := r.obj k u q h2
      have hn := r.none_ne hp ⟨u, q, h2⟩
      show ObjR K Λ _ u (upd H p ho (snoc c.φ c.st.length p k)) ∧ c.S (snoc c.φ c.st.length p k) = none
      rw [phi k hk, upd_ne hn]
      exact ⟨ObjR.mono ex u _ q1, q2⟩
    · obtain ⟨e, e2⟩ := last h1 hk
      subst e e2
      show ObjR K Λ _ u (upd H p ho (snoc c.φ c.st.length p c.st.length)) ∧ c.S (snoc c.φ c.st.length p c.st.length) = none
      rw [snoc_same, upd_same]
      exact ⟨hr, hS⟩
  · have hn : ∀ {i : Nat}, Live (c.st ++ [o]) i → i < c.st.length → c.φ i ≠ p := fun {i} ⟨u, z1, z2⟩ hi => r.none_ne hp ⟨u, old z1 hi, z2⟩
    have e' : snoc c.φ c.st.length p j = snoc c.φ c.st.length p k := e
    by_cases hj' : j < c.st.length
    · by_cases hk' : k < c.st.length
      · rw [phi j hj', phi k hk'] at e'
        obtain ⟨u, z1, z2⟩ := hj
        obtain ⟨u', y1, y2⟩ := hk
        exact r.inj j k ⟨u, old z1 hj', z2⟩ ⟨u', old y1 hk', y2⟩ e'
      · obtain ⟨u', y1, y2⟩ := hk
        obtain ⟨ek, _⟩ := last y1 hk'
        rw [phi j hj', ek, snoc_same] at e'
        exact absurd e' (hn hj hj')
    · obtain ⟨u, z1, z2⟩ := id hj
      obtain ⟨ej, _⟩ := last z1 hj'
      by_cases hk' : k < c.st.length
      · rw [phi k hk', ej, snoc_same] at e'
        exact absurd e'.symm (hn hk hk')
      · obtain ⟨u', y1, y2⟩ := hk
        obtain ⟨ek, _⟩ := last y1 hk'
        rw [ej, ek]
  · exact r.tab.ext fun b u e => by rw [upd_ne (ne_of_none e hp)]; exact e
/-- an object changes -/
theorem After.set {k : Nat} {ho : HO} {o o' : O} (r : Rel K Λ TB c H) (hk : c.st[k]? = some o) (hl : o ≠ .dead) (hl' : o' ≠ .dead) (ht : ¬ isTbl ho)
    (hr : ObjR K Λ ⟨c.S, c.φ, c.st.set k o'⟩ o' (some ho)) : After K Λ TB c H ⟨c.S, c.φ, c.st.set k o'⟩ (upd H (c.φ k) ho) := by
  have hlt : k < c.st.length := (List.getElem?_eq_some_iff.mp hk).1
  obtain ⟨qo, qS⟩ := r.obj k o hk hl
  obtain ⟨u0, hu0, nt0⟩ := ObjR.some_of qo hl
  have ex : Ext c ⟨c.S, c.φ, c.st.set k o'⟩ := ⟨fun _ _ h => h, fun _ _ => rfl, by simp⟩
  have lv : ∀ {j : Nat}, Live (c.st.set k o') j → Live c.st j := fun {j} ⟨u, h1, h2⟩ => by
    by_cases e : k = j
    · subst e
      exact ⟨o, hk, hl⟩
    · rw [List.getElem?_set_ne e] at h1
      exact ⟨u, h1, h2⟩
  refine ⟨fun _ _ h => h, fun _ _ => rfl, by simp, fun a u e _ l => ?_, fun a u e n => ?_, fun j hj h => absurd (lv h).lt (Nat.not_lt.mpr hj), fun j h => ?_, fun a u e n => (by have e' : c.S a = some u := e; rw [n] at e'; cases e'), ⟨fun a u e => ?_, r.not, fun j u h1 h2 => ?_, fun i j hi hj e => r.inj i j (lv hi) (lv hj) e, ?_⟩⟩
  · rw [upd_ne (fun z => l k ⟨o, hk, hl⟩ z.symm)]
    exact e
  · by_cases z : a = c.φ k
    · rw [z, upd_same]
      exact ⟨_, rfl, ht⟩
    · rw [upd_ne z]
      exact ⟨u, e, n⟩
  · have ne : k ≠ j := fun z => by
      subst z
      rw [hk] at h
      exact hl (Option.some.inj h)
    show (c.st.set k o')[j]? = some .dead
    rw [List.getElem?_set_ne ne]
    exact h
  · have e' : c.S a = some u := e
    rw [upd_ne (ne_of_none e' qS)]
    exact r.sub a u e'
  · by_cases e : k = j
    · subst e
      have h1' : (c.st.set k o')[k]? = some u := h1
      rw [List.getElem?_set_self hlt] at h1'
      cases h1'
      show ObjR K Λ _ o' (upd H (c.φ k) ho (c.φ k)) ∧ _
      rw [upd_same]
      exact ⟨hr, qS⟩
    · have h1' : (c.st.set k o')[j]? = some u := h1
      rw [List.getElem?_set_ne e] at h1'
      obtain ⟨q1, q2⟩ := r.obj j u h1' h2
      have ne : c.φ j ≠ c.φ k := fun z => e (r.inj j k ⟨u, h1', h2⟩ ⟨o, hk, hl⟩ z).symm
      show ObjR K Λ _ u (upd H (c.φ k) ho (c.φ j)) ∧ _
      rw [upd_ne ne]
      exact ⟨ObjR.mono ex u _ q1, q2⟩
  · intro p hp
    obtain ⟨ps, h1, h2, h3⟩ := r.tab p hp
    refine ⟨ps, ?_, h2, fun pos cv hc => ?_⟩
    · rw [upd_ne fun z => ?_]
      · exact h1
      · rw [z, hu0] at h1
        cases h1
        exact nt0 ⟨_, rfl⟩
    · obtain ⟨cc, e1, e2⟩ := h3 pos cv hc
      refine ⟨cc, e1, ?_⟩
      rw [upd_ne fun z => ?_]
      · exact e2
      · rw [z] at e2
        cases o with
        | lst xs => obtain ⟨vs, z, _⟩ := qo; rw [z] at e2; cases e2
        | dT kvs => obtain ⟨vs, z, _⟩ := qo; rw [z] at e2; cases e2
        | dK kvs => obtain ⟨vs, z, _⟩ := qo; rw [z] at e2; cases e2
        | ins C fs => obtain ⟨dx, vs, z, _⟩ := qo; rw [z] at e2; cases e2
        | dead => exact hl rfl
/-- the configuration's still part grows by an object of a handle, which dies -/
theorem After.freeze {k : Nat} {o : O} {ho : HO} (r : Rel K Λ TB c H) (hk : c.st[k]? = some o) (hl : o ≠ .dead) (hh : H (c.φ k) = some ho) : After K Λ TB c H ⟨upd c.S (c.φ k) ho, c.φ, c.st.set k .dead⟩ H := by
  have hlt : k < c.st.length := (List.getElem?_eq_some_iff.mp hk).1
  obtain ⟨qo, qS⟩ := r.obj k o hk hl
  obtain ⟨u0, hu0, nt0⟩ := ObjR.some_of qo hl
  have eu : u0 = ho := Option.some.inj (hu0.symm.trans hh)
  subst eu
  have sub : ∀ a u, c.S a = some u → upd c.S (c.φ k) u0 a = some u := fun a u e => by rw [upd_ne (ne_of_none e qS)]; exact e
  have ex : Ext c ⟨upd c.S (c.φ k) u0, c.φ, c.st.set k .dead⟩ := ⟨sub, fun _ _ => rfl, by simp⟩
  have lv : ∀ {j : Nat} {u : O}, (c.st.set k .dead)[j]? = some u → u ≠ .dead → j ≠ k ∧ c.st[j]? = some u := fun {j u} h1 h2 => by
    by_cases e : k = j
    · subst e
      rw [List.getElem?_set_self hlt] at h1
      exact absurd (Option.some.inj h1).symm h2
    · rw [List.getElem?_set_ne e] at h1
      exact ⟨fun z => e z.symm, h1⟩
  have lv' : ∀ {j : Nat}, Live (c.st.set k .dead) j → j ≠ k ∧ Live c.st j := fun {j} ⟨u, h1, h2⟩ => ⟨(lv h1 h2).1, u, (lv h1 h2).2, h2⟩
  refine ⟨sub, fun _ _ => rfl, by simp, fun a u e _ _ => e, fun a u e n => ⟨u, e, n⟩, fun j hj h => absurd (lv' h).2.lt (Nat.not_lt.mpr hj), fun j h => ?_, fun a u e n => (by
      by_cases h : a = c.φ k
      · exact .inr ⟨k, ⟨o, hk, hl⟩, h.symm⟩
      · have e' : upd c.S (c.φ k) u0 a = some u := e
        rw [upd_ne h, n] at e'
        cases e'), ⟨fun a u e => ?_, fun a ps e => ?_, fun j u h1 h2 => ?_, fun i j hi hj e => r.inj i j (lv' hi).2 (lv' hj).2 e, r.tab⟩⟩
  · show (c.st.set k .dead)[j]? = some .dead
    by_cases e : k = j
    · subst e
      rw [List.getElem?_set_self hlt]
    · rw [List.getElem?_set_ne e]
      exact h
  · have e' : upd c.S (c.φ k) u0 a = some u := e
    by_cases z : a = c.φ k
    · rw [z, upd_same] at e'
      rw [z, ← e']
      exact hh
    · rw [upd_ne z] at e'
      exact r.sub a u e'
  · have e' : upd c.S (c.φ k) u0 a = some (.tbl ps) := e
    by_cases z : a = c.φ k
    · rw [z, upd_same] at e'
      cases e'
      exact nt0 ⟨_, rfl⟩
    · rw [upd_ne z] at e'
      exact r.not a ps e'
  · obtain ⟨ne, h1'⟩ := lv h1 h2
    obtain ⟨q1, q2⟩ := r.obj j u h1' h2
    have nφ : c.φ j ≠ c.φ k := fun z => ne (r.inj j k ⟨u, h1', h2⟩ ⟨o, hk, hl⟩ z)
    refine ⟨ObjR.mono ex u _ q1, ?_⟩
    show upd c.S (c.φ k) u0 (c.φ j) = none
    rw [upd_ne nφ]
    exact q2
end
end Ice
end

section
set_option Elab.async false
set_option linter.all false
set_option maxRecDepth 100000
set_option maxHeartbeats 4000000
namespace Ice
open PySem PySem.Spec PyProof.Rows L2

section
variable (K : PySem.W.Frag) (Λ : Lay) (TB : List (Addr × Str))
def ExnR (c : Cfg) (H : Hp) (d : Addr) (e : Exn) : Prop := ∃ fv, H d = some (.xd fv) ∧ DenFs K Λ c.S e.fs fv
def Wp {α β : Type} (r : R α) (c : Cfg) (H : Hp) (D : Cfg → α → β → Prop) (Q : β → Hp → Prop) (E : XK) : Prop := match r with
  | .ok a st' => ∀ c' H' v, After K Λ TB c H c' H' → c'.st = st' → D c' a v → Q v H'
  | .ex e st' => ∀ c' H' d, After K Λ TB c H c' H' → c'.st = st' → ExnR K Λ c' H' d e → E (.ref (Λ.cA e.cls)) (some d) H'
  | .no => False
/-- what a value gives: nothing but the still part and H grow -/
def Out (c : Cfg) (H : Hp) (z : T) (Q : V → Hp → Prop) : Prop := ∀ c' H' v, After K Λ TB c H c' H' → c'.st = c.st → Den K Λ c'.S z v → Q v H'
/-- a tree as a value is seen -/
def Seen (c : Cfg) (H : Hp) : T → V → Prop
  | .lst xs, v => ∃ a vs, v = .ref a ∧ H a = some (.lst vs) ∧ Dens K Λ c.S xs vs
  | .tup xs, v => ∃ a vs, v = .ref a ∧ SqT K H a vs ∧ Dens K Λ c.S xs vs
  | x, v => Den K Λ c.S x v
end
section
variable {K : PySem.W.Frag} {Λ : Lay} {TB : List (Addr × Str)} {c c1 c' : Cfg} {H H1 H' : Hp}
theorem Wp.move {α β : Type} {r : R α} {D : Cfg → α → β → Prop} {Q : β → Hp → Prop} {E : XK} (h : Wp K Λ TB r c H D Q E) (a : After K Λ TB c H c1 H1) : Wp K Λ TB r c1 H1 D Q E := by
  cases r with
  | ok x st => exact fun c' H' v b e d => h c' H' v (a.trans b) e d
  | ex x st => exact fun c' H' d b e x => h c' H' d (a.trans b) e x
  | no => exact h
theorem Wp.bindI {α β α' β' : Type} {r : R α} {f : α → Store → R α'} {D : Cfg → α → β → Prop} {D' : Cfg → α' → β' → Prop} {Q : β' → Hp → Prop} {E : XK} (h : Wp K Λ TB (r.bind f) c H D' Q E) :
    Wp K Λ TB r c H D (fun v H1 => ∃ c1 a, After K Λ TB c H c1 H1 ∧ D c1 a v ∧ Wp K Λ TB (f a c1.st) c1 H1 D' Q E) E := by
  cases r with
  | ok x st => exact fun c' H' v b e d => ⟨c', x, b, d, by subst e; exact Wp.move h b⟩
  | ex x st => exact h
  | no => exact h
theorem Wp.opt {α α' β' : Type} {o : Option α} {f : α → Store → R α'} {D' : Cfg → α' → β' → Prop} {Q : β' → Hp → Prop} {E : XK} (h : Wp K Λ TB ((ofOpt c.st o).bind f) c H D' Q E) :
    ∃ a, o = some a ∧ Wp K Λ TB (f a c.st) c H D' Q E := by
  cases o with
  | some a => exact ⟨a, rfl, h⟩
  | none => exact h.elim
theorem Wp.opt1 {α β : Type} {o : Option α} {D' : Cfg → α → β → Prop} {Q : β → Hp → Prop} {E : XK} (h : Wp K Λ TB (ofOpt c.st o) c H D' Q E) :
    ∃ a, o = some a ∧ Wp K Λ TB (.ok a c.st) c H D' Q E := by
  cases o with
  | some a => exact ⟨a, rfl, h⟩
  | none => exact h.elim
theorem Wp.ok {α β : Type} {a : α} {v : β} {D : Cfg → α → β → Prop} {Q : β → Hp → Prop} {E : XK} (h : Wp K Λ TB (.ok a c.st) c H D Q E) (r : Rel K Λ TB c H) (d : D c a v) : Q v H := h c H v (After.refl r) rfl d
theorem Wp.out {z : T} {Q : V → Hp → Prop} {E : XK} (h : Wp K Λ TB (.ok (.t z) c.st) c H (DenD K Λ) Q E) : Out K Λ TB c H z Q := fun c' H' v a e d => h c' H' v a e d
theorem Out.here {z : T} {v : V} {Q : V → Hp → Prop} (h : Out K Λ TB c H z Q) (r : Rel K Λ TB c H) (d : Den K Λ c.S z v) : Q v H := h c H v (After.refl r) rfl d
theorem Dens.length : ∀ {S : Hp} {xs : List T} {vs : List V}, Dens K Λ S xs vs → xs.length = vs.length
  | _, [], vs, h => by rw [show vs = [] from h] <;> rfl
  | _, x :: xs, vs, h => by
    obtain ⟨v, r, e, _, h2⟩ := h
    rw [e, List.length_cons, List.length_cons, Dens.length h2]
theorem DensD.length : ∀ {c : Cfg} {xs : List D} {vs : List V}, DensD K Λ c xs vs → xs.length = vs.length
  | _, [], vs, h => by rw [show vs = [] from h] <;> rfl
  | _, x :: xs, vs, h => by
    obtain ⟨v, r, e, _, h2⟩ := h
    rw [e, List.length_cons, List.length_cons, DensD.length h2]
theorem Out.tup {xs : List T} {vs : List V} {Q : V → Hp → Prop} (h : Out K Λ TB c H (.tup xs) Q) (r : Rel K Λ TB c H) (d : Dens K Λ c.S xs vs) {p : Addr} (hp : H p = none) : Q (.ref p) (upd H p (.tup vs)) := by
  have a := After.new (o := .tup vs) r hp (fun ⟨_, z⟩ => by cases z)
  refine h _ _ _ a rfl ?_
  simp only [Den]
  exact ⟨p, vs, rfl, upd_same, Dens.mono a.sub xs vs d⟩
theorem Out.lst {xs : List T} {vs : List V} {Q : V → Hp → Prop} (h : Out K Λ TB c H (.lst xs) Q) (r : Rel K Λ TB c H) (d : Dens K Λ c.S xs vs) {p : Addr} (hp : H p = none) : Q (.ref p) (upd H p (.lst vs)) := by
  have a := After.new (o := .lst vs) r hp (fun ⟨_, z⟩ => by cases z)
  refine h _ _ _ a rfl ?_
  simp only [Den]
  exact ⟨p, vs, rfl, upd_same, Dens.mono a.sub xs vs d⟩
theorem Dens.append : ∀ {S : Hp} {xs ys : List T} {vs us : List V}, Dens K Λ S xs vs → Dens K Λ S ys us → Dens K Λ S (xs ++ ys) (vs ++ us)
  | _, [], _, vs, _, h, h' => by
    rw [show vs = [] from h]
    exact h'
  | _, x :: xs, _, vs, _, h, h' => by
    obtain ⟨v, r, e, h1, h2⟩ := h
    rw [e]
    exact ⟨v, _, rfl, h1, Dens.append h2 h'⟩
theorem DensD.append : ∀ {c : Cfg} {xs ys : List D} {vs us : List V}, DensD K Λ c xs vs → DensD K Λ c ys us → DensD K Λ c (xs ++ ys) (vs ++ us)
  | _, [], _, vs, _, h, h' => by
    rw [show vs = [] from h]
    exact h'
  | _, x :: xs, _, vs, _, h, h' => by
    obtain ⟨v, r, e, h1, h2⟩ := h
    rw [e]
    exact ⟨v, _, rfl, h1, DensD.append h2 h'⟩
theorem Dens.get : ∀ {S : Hp} {xs : List T} {vs : List V} {i : Nat} {x : T}, Dens K Λ S xs vs → xs[i]? = some x → ∃ v, vs[i]? = some v ∧ Den K Λ S x v
  | _, [], _, _, _, _, e => by simp at e
  | _, y :: ys, vs, 0, x, h, e => by
    obtain ⟨v, r, e1, h1, _⟩ := h
    simp at e
    subst e
    exact ⟨v, by rw [e1]; rfl, h1⟩
  | _, y :: ys, vs, i + 1, x, h, e => by
    obtain ⟨v, r, e1, _, h2⟩ := h
    obtain ⟨u, h3, h4⟩ := Dens.get (i := i) (x := x) h2 (by simpa using e)
    exact ⟨u, by rw [e1]; simpa using h3, h4⟩
theorem DensD.get : ∀ {c : Cfg} {xs : List D} {vs : List V} {i : Nat} {x : D}, DensD K Λ c xs vs → xs[i]? = some x → ∃ v, vs[i]? = some v ∧ DenD K Λ c x v
  | _, [], _, _, _, _, e => by simp at e
  | _, y :: ys, vs, 0, x, h, e => by
    obtain ⟨v, r, e1, h1, _⟩ := h
    simp at e
    subst e
    exact ⟨v, by rw [e1]; rfl, h1⟩
  | _, y :: ys, vs, i + 1, x, h, e => by
    obtain ⟨v, r, e1, _, h2⟩ := h
    obtain ⟨u, h3, h4⟩ := DensD.get (i := i) (x := x) h2 (by simpa using e)
    exact ⟨u, by rw [e1]; simpa using h3, h4⟩
theorem Dens.take : ∀ {S : Hp} {xs : List T} {vs : List V} (n : Nat), Dens K Λ S xs vs → Dens K Λ S (xs.take n) (vs.take n)
  | _, _, vs, 0, _ => rfl
  | _, [], vs, n + 1, h => by
    rw [show vs = [] from h]
    exact rfl
  | _, x :: xs, vs, n + 1, h => by
    obtain ⟨v, r, e, h1, h2⟩ := h
    rw [e]
    exact ⟨v, _, rfl, h1, Dens.take n h2⟩
theorem Dens.drop : ∀ {S : Hp} {xs : List T} {vs : List V} (n : Nat), Dens K Λ S xs vs → Dens K Λ S (xs.drop n) (vs.drop n)
  | _, _, vs, 0, h => h
  | _, [], vs, n + 1, h => by
    rw [show vs = [] from h]
    exact rfl
  | _, x :: xs, vs, n + 1, h => by
    obtain ⟨v, r, e, h1, h2⟩ := h
    rw [e]
    exact Dens.drop n h2
theorem Dens.reverse : ∀ {S : Hp} {xs : List T} {vs : List V}, Dens K Λ S xs vs → Dens K Λ S xs.reverse vs.reverse
  | _, [], vs, h => by
    rw [show vs = [] from h]
    exact rfl
  | _, x :: xs, vs, h => by
    obtain ⟨v, r, e, h1, h2⟩ := h
    rw [e, List.reverse_cons, List.reverse_cons]
    exact Dens.append (Dens.reverse h2) ⟨v, [], rfl, h1, rfl⟩
theorem Dens.rep {S : Hp} {xs : List T} {vs : List V} (h : Dens K Λ S xs vs) : ∀ n : Nat, Dens K Λ S (List.replicate n xs).flatten (List.replicate n vs).flatten
  | 0 => rfl
  | n + 1 => by
    rw [List.replicate_succ, List.replicate_succ, List.flatten_cons, List.flatten_cons]
    exact Dens.append h (Dens.rep h n)
theorem Dens.trees : ∀ {c : Cfg} {ds : List D} {xs : List T} {vs : List V}, Ice.trees ds = some xs → DensD K Λ c ds vs → Dens K Λ c.S xs vs
  | _, [], xs, vs, e, h => by
    cases e
    exact h
  | _, .t x :: ds, xs, vs, e, h => by
    obtain ⟨v, r, e1, h1, h2⟩ := h
    simp only [Ice.trees, Option.map_eq_some_iff] at e
    obtain ⟨ys, e2, e3⟩ := e
    subst e3
    exact ⟨v, r, e1, h1, Dens.trees e2 h2⟩
  | _, .h k :: ds, xs, vs, e, h => by cases e
theorem DensD.of : ∀ {c : Cfg} {xs : List T} {vs : List V}, Dens K Λ c.S xs vs → DensD K Λ c (xs.map .t) vs
  | _, [], vs, h => h
  | _, x :: xs, vs, h => by
    obtain ⟨v, r, e, h1, h2⟩ := h
    exact ⟨v, r, e, h1, DensD.of h2⟩
theorem DensD.ints {c : Cfg} : ∀ ns : List Int, DensD K Λ c (ns.map fun n => .t (.int n)) (ns.map V.int)
  | [] => rfl
  | n :: ns => ⟨.int n, _, rfl, rfl, DensD.ints ns⟩
theorem trees_map : ∀ xs : List T, trees (xs.map .t) = some xs
  | [] => rfl
  | x :: xs => by
    show (trees (xs.map .t)).map _ = _
    rw [trees_map xs]
    rfl
theorem seen_of {t : T} {d : D} {v : V} (r : Rel K Λ TB c H) (h : DenD K Λ c d v) (e : viewD c.st d = some t) : Seen K Λ c H t v := by
  cases d with
  | t x =>
    cases x with
    | lst xs =>
      cases e
      have h' : Den K Λ c.S (.lst xs) v := h
      simp only [Den] at h'
      obtain ⟨a, vs, e1, e2, e3⟩ := h'
      exact ⟨a, vs, e1, r.sub _ _ e2, e3⟩
    | tup xs =>
      cases e
      have h' : Den K Λ c.S (.tup xs) v := h
      simp only [Den] at h'
      obtain ⟨a, vs, e1, e2, e3⟩ := h'
      exact ⟨a, vs, e1, .inl (.inl (r.sub _ _ e2)), e3⟩
    | wt xs =>
      cases e
      have h' : Den K Λ c.S (.wt xs) v := h
      simp only [Den] at h'
      obtain ⟨a, vs, e1, e2, e3⟩ := h'
      exact ⟨a, vs, e1, SqT.mono r.sub e2, e3⟩
    | _ => cases e; exact h
  | h k =>
    obtain ⟨hk, rfl⟩ := h
    simp only [viewD] at e
    split at e
    · rename_i xs hx
      obtain ⟨ys, e1, e2⟩ := Option.map_eq_some_iff.mp e
      subst e2
      obtain ⟨vs, q1, q2⟩ := (r.obj k _ hx (by intro z; cases z)).1
      exact ⟨_, vs, rfl, q1, Dens.trees e1 q2⟩
    · cases e
def SeenH (K : PySem.W.Frag) (Λ : Lay) (c : Cfg) (H : Hp) : T → V → Prop
  | .lst xs, v => ∃ a vs, v = .ref a ∧ H a = some (.lst vs) ∧ Dens K Λ c.S xs vs
  | x, v => Den K Λ c.S x v
theorem seenH_of {t : T} {d : D} {v : V} (r : Rel K Λ TB c H) (h : DenD K Λ c d v) (e : viewH c.st d = some t) : SeenH K Λ c H t v := by
  cases d with
  | t x =>
    have e' : x = t := Option.some.inj e
    subst e'
    cases x with
    | lst xs =>
      have h' : Den K Λ c.S (.lst xs) v := h
      simp only [Den] at h'
      obtain ⟨a, vs, e1, e2, e3⟩ := h'
      exact ⟨a, vs, e1, r.sub _ _ e2, e3⟩
    | _ => exact h
  | h k =>
    obtain ⟨hk, rfl⟩ := h
    simp only [viewH] at e
    split at e
    · rename_i xs hx
      obtain ⟨ys, e1, e2⟩ := Option.map_eq_some_iff.mp e
      subst e2
      obtain ⟨vs, q1, q2⟩ := (r.obj k _ hx (by intro z; cases z)).1
      exact ⟨_, vs, rfl, q1, Dens.trees e1 q2⟩
    · cases e
/-- the items of a list or tuple, as they stand -/
theorem items_of {d : D} {v : V} {xs : List D} (r : Rel K Λ TB c H) (h : DenD K Λ c d v) (e : items c.st d = some xs) : ∃ a vs, v = .ref a ∧ (SqL K H a vs ∨ (SqT K H a vs ∧ ∃ zs, d = .t (.tup zs) ∨ d = .t (.wt zs))) ∧ DensD K Λ c xs vs := by
  cases d with
  | t x =>
    cases x with
    | lst ys =>
      have e : some (ys.map D.t) = some xs := e
      cases e
      have h' : Den K Λ c.S (.lst ys) v := h
      simp only [Den] at h'
      obtain ⟨a, vs, e1, e2, e3⟩ := h'
      exact ⟨a, vs, e1, .inl (.inl (.inl (r.sub _ _ e2))), DensD.of e3⟩
    | tup ys =>
      have e : some (ys.map D.t) = some xs := e
      cases e
      have h' : Den K Λ c.S (.tup ys) v := h
      simp only [Den] at h'
      obtain ⟨a, vs, e1, e2, e3⟩ := h'
      exact ⟨a, vs, e1, .inr ⟨.inl (.inl (r.sub _ _ e2)), ys, .inl rfl⟩, DensD.of e3⟩
    | wt ys =>
      have e : some (ys.map D.t) = some xs := e
      cases e
      have h' : Den K Λ c.S (.wt ys) v := h
      simp only [Den] at h'
      obtain ⟨a, vs, e1, e2, e3⟩ := h'
      exact ⟨a, vs, e1, .inr ⟨SqT.mono r.sub e2, ys, .inr rfl⟩, DensD.of e3⟩
    | scr ns =>
      have e : some (ns.map fun n => D.t (.int n)) = some xs := e
      cases e
      have h' : Den K Λ c.S (.scr ns) v := h
      simp only [Den] at h'
      obtain ⟨a, e1, e2⟩ := h'
      exact ⟨a, _, e1, .inl (SqL.mono r.sub e2), DensD.ints ns⟩
    | _ => cases e
  | h k =>
    obtain ⟨hk, rfl⟩ := h
    simp only [items] at e
    split at e
    · rename_i ys hx
      cases e
      obtain ⟨vs, q1, q2⟩ := (r.obj k _ hx (by intro z; cases z)).1
      exact ⟨_, vs, rfl, .inl (.inl (.inl q1)), q2⟩
    · cases e
end

/-! ### data of the library -/
section
variable {X : Cx} {Λ : Lay} {TB : List (Addr × Str)} {c : Cfg} {H : Hp} {pins : List (Addr × Obj)} {σ : L2.St} {s : Shared}
mutual
theorem reads_den (I : Inv X pins σ H s) (r : Rel X.K Λ TB c H) : ∀ (t : T) (v : V) (u : Value), t.data = true → Den X.K Λ c.S t v → RelV v u → ∃ as, Reads s.heap u t.py as
  | .non, v, u, _, h, ru => by
    cases (show v = .non from h)
    cases ru
    exact ⟨[], .none⟩
  | .bl b, v, u, _, h, ru => by
    cases (show v = .bl b from h)
    cases ru
    exact ⟨[], .bool b⟩
  | .int i, v, u, _, h, ru => by
    cases (show v = .int i from h)
    obtain ⟨t, rfl⟩ := ru
    exact ⟨[], .int i t⟩
  | .str x, v, u, _, h, ru => by
    cases (show v = .str x from h)
    obtain ⟨t, rfl⟩ := ru
    exact ⟨[], .str x t⟩
  | .tup xs, v, u, hd, h, ru => by
    simp only [Den] at h
    obtain ⟨a, vs, rfl, e2, e3⟩ := h
    obtain rfl : u = Value.ref a := ru
    obtain ⟨its, rv, ⟨o, ho, hc, n, hdt⟩, _⟩ := I.tuple (.inl (.inl (r.sub _ _ e2)))
    obtain ⟨as, q⟩ := reads_dens I r xs vs its (by simpa [T.data] using hd) e3 rv
    exact ⟨as, .tuple ho hc hdt (by simpa using q)⟩
  | .lst xs, v, u, hd, h, ru => by
    simp only [Den] at h
    obtain ⟨a, vs, rfl, e2, e3⟩ := h
    obtain rfl : u = Value.ref a := ru
    obtain ⟨its, rv, ⟨o, n, ho, hc, _, hdt⟩, _⟩ := I.list (.inl (.inl (r.sub _ _ e2)))
    obtain ⟨as, q⟩ := reads_dens I r xs vs its (by simpa [T.data] using hd) e3 rv
    exact ⟨_, .list ho hc hdt (by simpa using q)⟩
  | .ins _ _, _, _, hd, _, _ => by simp [T.data] at hd
  | .dct _, _, _, hd, _, _ => by simp [T.data] at hd
  | .fn _, _, _, hd, _, _ => by simp [T.data] at hd
  | .scr _, _, _, hd, _, _ => by simp [T.data] at hd
  | .wt _, _, _, hd, _, _ => by simp [T.data] at hd
theorem reads_dens (I : Inv X pins σ H s) (r : Rel X.K Λ TB c H) : ∀ (xs : List T) (vs : List V) (us : List Value), dataAll xs = true → Dens X.K Λ c.S xs vs → Vals vs us → ∃ as, ReadsAll s.heap us (pyAll xs) as
  | [], vs, us, _, h, ru => by
    cases (show vs = [] from h)
    cases ru
    exact ⟨[], .nil⟩
  | x :: xs, vs, us, hd, h, ru => by
    obtain ⟨v, q, rfl, h1, h2⟩ := h
    have hd' : x.data = true ∧ dataAll xs = true := by simpa [dataAll] using hd
    cases ru with
    | cons r1 r2 =>
      obtain ⟨as, z1⟩ := reads_den I r x v _ hd'.1 h1 r1
      obtain ⟨bs, z2⟩ := reads_dens I r xs q _ hd'.2 h2 r2
      exact ⟨_, .cons z1 z2⟩
end
theorem reads_seen (I : Inv X pins σ H s) (r : Rel X.K Λ TB c H) {t : T} {v : V} {u : Value} (hd : t.data = true) (h : Seen X.K Λ c H t v) (ru : RelV v u) : ∃ as, Reads s.heap u t.py as := by
  cases t with
  | lst xs =>
    obtain ⟨a, vs, rfl, e2, e3⟩ := h
    obtain rfl : u = Value.ref a := ru
    obtain ⟨its, rv, ⟨o, n, ho, hc, _, hdt⟩, _⟩ := I.list (.inl (.inl e2))
    obtain ⟨as, q⟩ := reads_dens I r xs vs its (by simpa [T.data] using hd) e3 rv
    exact ⟨_, .list ho hc hdt (by simpa using q)⟩
  | tup xs =>
    obtain ⟨a, vs, rfl, e2, e3⟩ := h
    obtain rfl : u = Value.ref a := ru
    obtain ⟨its, rv, ⟨o, ho, hc, n, hdt⟩, _⟩ := I.tuple e2
    obtain ⟨as, q⟩ := reads_dens I r xs vs its (by simpa [T.data] using hd) e3 rv
    exact ⟨as, .tuple ho hc hdt (by simpa using q)⟩
  | _ => exact reads_den I r _ v u hd h ru
end
mutual
theorem plain_py : ∀ t : T, t.data = true → t.py.plain = true
  | .non, _ => by simp [T.py, PyData.plain]
  | .bl _, _ => by simp [T.py, PyData.plain]
  | .int _, _ => by simp [T.py, PyData.plain]
  | .str _, _ => by simp [T.py, PyData.plain]
  | .tup xs, h => by simp only [T.py, PyData.plain]; exact plain_pyAll xs (by simpa [T.data] using h)
  | .lst xs, h => by simp only [T.py, PyData.plain]; exact plain_pyAll xs (by simpa [T.data] using h)
  | .ins _ _, h => by simp [T.data] at h
  | .dct _, h => by simp [T.data] at h
  | .fn _, h => by simp [T.data] at h
  | .scr _, h => by simp [T.data] at h
  | .wt _, h => by simp [T.data] at h
theorem plain_pyAll : ∀ xs : List T, dataAll xs = true → PyData.plainAll (pyAll xs) = true
  | [], _ => by simp [pyAll, PyData.plainAll]
  | x :: xs, h => by
    have hd' : x.data = true ∧ dataAll xs = true := by simpa [dataAll] using h
    simp only [pyAll, PyData.plainAll, plain_py x hd'.1, plain_pyAll xs hd'.2, Bool.and_self]
end
theorem pyAll_map : ∀ xs : List T, pyAll xs = xs.map T.py
  | [] => by simp [pyAll]
  | x :: xs => by simp [pyAll, pyAll_map xs]
mutual
theorem py_inj : ∀ a b : T, a.data = true → b.data = true → a.py = b.py → a = b
  | .non, b, _, hb, e => by cases b <;> simp_all [T.py, T.data]
  | .bl _, b, _, hb, e => by cases b <;> simp_all [T.py, T.data]
  | .int _, b, _, hb, e => by cases b <;> simp_all [T.py, T.data]
  | .str _, b, _, hb, e => by cases b <;> simp_all [T.py, T.data]
  | .tup xs, b, ha, hb, e => by
    cases b with
    | tup ys =>
      simp only [T.py, PyData.tuple.injEq] at e
      rw [pyAll_inj xs ys (by simpa [T.data] using ha) (by simpa [T.data] using hb) e]
    | _ => simp_all [T.py, T.data]
  | .lst xs, b, ha, hb, e => by
    cases b with
    | lst ys =>
      simp only [T.py, PyData.list.injEq] at e
      rw [pyAll_inj xs ys (by simpa [T.data] using ha) (by simpa [T.data] using hb) e]
    | _ => simp_all [T.py, T.data]
  | .ins _ _, _, ha, _, _ => by simp [T.data] at ha
  | .dct _, _, ha, _, _ => by simp [T.data] at ha
  | .fn _, _, ha, _, _ => by simp [T.data] at ha
  | .scr _, _, ha, _, _ => by simp [T.data] at ha
  | .wt _, _, ha, _, _ => by simp [T.data] at ha
theorem pyAll_inj : ∀ xs ys : List T, dataAll xs = true → dataAll ys = true → pyAll xs = pyAll ys → xs = ys
  | [], ys, _, _, e => by cases ys <;> simp_all [pyAll]
  | x :: xs, ys, ha, hb, e => by
    cases ys with
    | nil => simp_all [pyAll]
    | cons y ys =>
      simp only [pyAll, List.cons.injEq] at e
      have h1 : x.data = true ∧ dataAll xs = true := by simpa [dataAll] using ha
      have h2 : y.data = true ∧ dataAll ys = true := by simpa [dataAll] using hb
      rw [py_inj x y h1.1 h2.1 e.1, pyAll_inj xs ys h1.2 h2.2 e.2]
end
end Ice
end

section
set_option Elab.async false
set_option linter.all false
set_option maxRecDepth 100000
set_option maxHeartbeats 4000000
namespace Ice
open PySem PySem.Spec PyProof.Rows L2

def opB : BOp → Operator
  | .add => .Add | .sub => .Sub | .mul => .Mult | .fdiv => .FloorDiv | .mod => .Mod | .pow => .Pow
def opC : COp → CmpOp
  | .lt => .Lt | .le => .LtE | .gt => .Gt | .ge => .GtE | .eq => .Eq | .ne => .NotEq | .is_ => .Is | .isNot => .IsNot | .in_ => .In | .notIn => .NotIn
theorem fits_line {n : Nat} (h : fits n = true) : n ≤ sizeLine := by
  have h' : n ≤ 1000000 := of_decide_eq_true h
  rw [sizeLine_eq]
  omega
theorem fits_lt {n : Nat} (h : fits n = true) : n < sizeLine := by
  have h' : n ≤ 1000000 := of_decide_eq_true h
  rw [sizeLine_eq]
  omega

section
variable {X : Cx} {Λ : Lay} {TB : List (Addr × Str)}
def rBin (K : PySem.W.Frag) (Λ : Lay) (TB : List (Addr × Str)) (o : BOp) : R2 := fun x y H Q => ∃ c a b z, Rel K Λ TB c H ∧ DenD K Λ c a x ∧ DenD K Λ c b y ∧ binD c.st o a b = some z ∧ Out K Λ TB c H z Q
theorem opBin (o : BOp) : OpR X (binaryOp (opB o)) (rBin X.K Λ TB o) := by
  intro pins s σ H x y v u Q I rx ry ⟨c, a, b, z, r, ha, hb, e, q⟩
  simp only [binD, Option.bind_eq_some_iff] at e
  obtain ⟨tx, ex, ty, ey, e⟩ := e
  have sx := seenH_of r ha ex
  have sy := seenH_of r hb ey
  simp only [binT] at e
  split at e
  · -- add ints
    cases e
    cases sx
    cases sy
    exact op_add pins s σ H _ _ v u Q I rx ry ⟨_, _, rfl, rfl, q.here r rfl⟩
  · cases e
    cases sx
    cases sy
    exact op_sub pins s σ H _ _ v u Q I rx ry ⟨_, _, rfl, rfl, q.here r rfl⟩
  · split at e
    · rename_i i j hc
      cases e
      cases sx
      cases sy
      exact op_mul pins s σ H _ _ v u Q I rx ry ⟨_, _, rfl, rfl, by unfold CMul; omega, q.here r rfl⟩
    · cases e
  · split at e
    · rename_i i j hc
      cases e
      cases sx
      cases sy
      exact op_fdiv pins s σ H _ _ v u Q I rx ry ⟨_, _, rfl, rfl, hc, q.here r rfl⟩
    · cases e
  · split at e
    · rename_i i j hc
      cases e
      cases sx
      cases sy
      exact op_mod pins s σ H _ _ v u Q I rx ry ⟨_, _, rfl, rfl, hc, q.here r rfl⟩
    · cases e
  · split at e
    · rename_i i j hc
      cases e
      cases sx
      cases sy
      exact op_pow pins s σ H _ _ v u Q I rx ry ⟨_, _, rfl, rfl, ⟨hc.1, by omega, by have := hc.2.2; omega⟩, q.here r rfl⟩
    · cases e
  · -- tuples
    split at e
    · rename_i xs ys hf
      cases e
      have sx' : Den X.K Λ c.S (.tup xs) x := sx
      have sy' : Den X.K Λ c.S (.tup ys) y := sy
      simp only [Den] at sx' sy'
      obtain ⟨p, vs, rfl, h1, d1⟩ := sx'
      obtain ⟨p2, vs2, rfl, h2, d2⟩ := sy'
      have l1 := d1.length
      have l2 := d2.length
      refine op_catA pins s σ H _ _ v u Q I rx ry ⟨_, _, vs, vs2, rfl, rfl, .inl (.inl (r.sub _ _ h1)), .inl (.inl (r.sub _ _ h2)), by have := fits_line hf; omega, fun e => ?_, fun _ e => ?_, fun _ _ p hp => q.tup r (d1.append d2) hp⟩
      · have exs : xs = [] := List.eq_nil_of_length_eq_zero (by rw [l1, e]; rfl)
        subst exs
        exact q.here r sy
      · have exs : ys = [] := List.eq_nil_of_length_eq_zero (by rw [l2, e]; rfl)
        subst exs
        rw [List.append_nil] at q
        exact q.here r sx
    · cases e
  · -- lists
    split at e
    · rename_i xs ys hf
      cases e
      obtain ⟨p, vs, rfl, h1, d1⟩ := sx
      obtain ⟨p2, vs2, rfl, h2, d2⟩ := sy
      have l1 := d1.length
      have l2 := d2.length
      exact op_cat pins s σ H _ _ v u Q I rx ry ⟨_, _, vs, vs2, rfl, rfl, h1, h2, by have := fits_line hf; omega, fun p hp => q.lst r (d1.append d2) hp⟩
    · cases e
  · split at e
    · rename_i xs j hc
      cases e
      obtain ⟨p, vs, rfl, h1, d1⟩ := sx
      cases sy
      have l1 := d1.length
      exact op_rep pins s σ H _ _ v u Q I rx ry ⟨_, _, vs, rfl, rfl, h1, by omega, by omega, by have := fits_line hc.2.2; rw [← l1]; exact this, fun p hp => q.lst r (d1.rep _) hp⟩
    · cases e
  · split at e
    · rename_i xs j hc
      cases e
      have sx' : Den X.K Λ c.S (.tup xs) x := sx
      simp only [Den] at sx'
      obtain ⟨p, vs, rfl, h1, d1⟩ := sx'
      cases sy
      have l1 := d1.length
      have ne : vs ≠ [] := fun e => by
        rw [e] at l1
        cases xs with
        | nil => exact Bool.noConfusion hc.2.2.1
        | cons _ _ => cases l1
      exact op_repT pins s σ H _ _ v u Q I rx ry ⟨_, _, vs, rfl, rfl, .inl (.inl (r.sub _ _ h1)), ne, hc.1, hc.2.1, by rw [← l1]; exact hc.2.2.2, fun p hp => q.tup r (d1.rep _) hp⟩
    · cases e
  · split at e
    · rename_i x y hc
      cases e
      cases sx
      cases sy
      exact op_add_str pins s σ H _ _ v u Q I rx ry ⟨_, _, rfl, rfl, by rw [sizeLine_eq]; omega, q.here r rfl⟩
    · cases e
  · cases e
/-! ### comparisons -/
theorem isB {M : Model} {A : Around} {E : Value → Shared → Prop} {s : Shared} {Q : Value → Shared → Prop} {v : Value} {d : Bool} (hv : (∃ c, v = .bool c) ∨ v = .none ∨ (∃ i t, v = .int i t) ∨ ∃ x t, v = .str x t) (h : Q (.bool (v == .bool d)) s) :
    wpAny M A (compareOp .Is v (.bool d)) Q E s := by
  rcases hv with ⟨c, rfl⟩ | rfl | ⟨i, t, rfl⟩ | ⟨x, t, rfl⟩ <;> exact wpAny_pure h
theorem isnotB {M : Model} {A : Around} {E : Value → Shared → Prop} {s : Shared} {Q : Value → Shared → Prop} {v : Value} {d : Bool} (hv : (∃ c, v = .bool c) ∨ v = .none ∨ (∃ i t, v = .int i t) ∨ ∃ x t, v = .str x t) (h : Q (.bool (!(v == .bool d))) s) :
    wpAny M A (compareOp .IsNot v (.bool d)) Q E s := by
  rcases hv with ⟨c, rfl⟩ | rfl | ⟨i, t, rfl⟩ | ⟨x, t, rfl⟩ <;> exact wpAny_pure h
def rCmp (K : PySem.W.Frag) (Λ : Lay) (TB : List (Addr × Str)) (o : COp) : R2 := fun x y H Q => ∃ c a b k, Rel K Λ TB c H ∧ DenD K Λ c a x ∧ DenD K Λ c b y ∧ cmpD c.st o a b = some k ∧ Q (.bl k) H
theorem atom_of {K : PySem.W.Frag} {S : Hp} {t : T} {x : V} {v : Value} (h : Den K Λ S t x) (rx : RelV x v) (ht : (∃ c, t = .bl c) ∨ t = .non ∨ (∃ i, t = .int i) ∨ ∃ x, t = .str x) : (∃ c, v = .bool c) ∨ v = .none ∨ (∃ i t, v = .int i t) ∨ ∃ x t, v = .str x t := by
  rcases ht with ⟨c, rfl⟩ | rfl | ⟨i, rfl⟩ | ⟨z, rfl⟩
  · cases h; cases rx; exact .inl ⟨_, rfl⟩
  · cases h; cases rx; exact .inr (.inl rfl)
  · cases h; obtain ⟨t, rfl⟩ := rx; exact .inr (.inr (.inl ⟨_, _, rfl⟩))
  · cases h; obtain ⟨t, rfl⟩ := rx; exact .inr (.inr (.inr ⟨_, _, rfl⟩))
theorem none_den {K : PySem.W.Frag} {c : Cfg} {H : Hp} {t : T} {x : V} (h : Seen K Λ c H t x) : decide (x = .non) = t.isNon := by
  cases t with
  | non => cases h; rfl
  | bl b => cases h; rfl
  | int i => cases h; rfl
  | str z => cases h; rfl
  | tup xs => obtain ⟨a, vs, rfl, _⟩ := h; rfl
  | lst xs => obtain ⟨a, vs, rfl, _⟩ := h; rfl
  | ins C fs =>
    have h' : Den K Λ c.S (.ins C fs) x := h
    simp only [Den] at h'
    obtain ⟨a, dx, fv, rfl, _⟩ := h'
    rfl
  | dct kvs =>
    have h' : Den K Λ c.S (.dct kvs) x := h
    simp only [Den] at h'
    obtain ⟨a, fv, rfl, _⟩ := h'
    rfl
  | fn f => cases h; rfl
  | scr ns =>
    have h' : Den K Λ c.S (.scr ns) x := h
    simp only [Den] at h'
    obtain ⟨a, rfl, _⟩ := h'
    rfl
  | wt xs =>
    have h' : Den K Λ c.S (.wt xs) x := h
    simp only [Den] at h'
    obtain ⟨a, vs, rfl, _⟩ := h'
    rfl
theorem min_le {a b n : Nat} (h : a ≤ n) : min a b ≤ n := Nat.le_trans (Nat.min_le_left _ _) h
theorem bool_beq (b c : Bool) : (Value.bool b == Value.bool c) = (b == c) := by cases b <;> cases c <;> rfl
theorem cmpT_ok (o : COp) (hu : X.A.units + 200 < cLine) {pins : List (Addr × Obj)} {s : Shared} {σ : L2.St} {H : Hp} {x y : V} {v u : Value} {Q : VK} {c : Cfg} {tx ty : T} {k : Bool} (I : Inv X pins σ H s) (r : Rel X.K Λ TB c H) (rx : RelV x v) (ry : RelV y u)
    (sx : Seen X.K Λ c H tx x) (sy : Seen X.K Λ c H ty y) (e : cmpT o tx ty = some k) (q : Q (.bl k) H) : wpAny (model X.prog X.w) X.A (compareOp (opC o) v u) (EP X pins σ Q) X.xe s := by
  have fin : ∀ {k' : Bool}, k = k' → EP X pins σ Q (.bool k') s := fun {k'} e => fin_bl I q e
  cases o with
  | lt =>
    simp only [cmpT] at e
    split at e
    · cases e
      cases sx
      cases sy
      exact op_lt pins s σ H _ _ v u Q I rx ry ⟨_, _, rfl, rfl, q⟩
    · rename_i xs ys
      split at e
      · rename_i hc
        cases e
        simp only [Bool.and_eq_true, decide_eq_true_eq] at hc
        obtain ⟨⟨⟨h1, h2⟩, h3⟩, h4⟩ := hc
        obtain ⟨as, ra⟩ := reads_seen I r h1 sx rx
        obtain ⟨bs, rb⟩ := reads_seen I r h2 sy ry
        exact PySem.W.lt_data ra rb h3 (by simp [T.py]) (by have := min_le (b := (T.tup ys).py.depth) h4; unfold deepest at this; omega) (fin rfl)
      · cases e
    · cases e
  | le =>
    simp only [cmpT] at e
    split at e
    · cases e
      cases sx
      cases sy
      exact op_le pins s σ H _ _ v u Q I rx ry ⟨_, _, rfl, rfl, q⟩
    · cases e
  | gt =>
    simp only [cmpT] at e
    split at e
    · cases e
      cases sx
      cases sy
      exact op_gt pins s σ H _ _ v u Q I rx ry ⟨_, _, rfl, rfl, q⟩
    · cases e
  | ge =>
    simp only [cmpT] at e
    split at e
    · cases e
      cases sx
      cases sy
      exact op_ge pins s σ H _ _ v u Q I rx ry ⟨_, _, rfl, rfl, q⟩
    · cases e
  | eq =>
    simp only [cmpT] at e
    split at e
    · rename_i hc
      cases e
      simp only [Bool.and_eq_true, decide_eq_true_eq] at hc
      obtain ⟨⟨h1, h2⟩, h4⟩ := hc
      obtain ⟨as, ra⟩ := reads_seen I r h1 sx rx
      obtain ⟨bs, rb⟩ := reads_seen I r h2 sy ry
      exact PySem.SeqAt.eq_plain ra rb (plain_py _ h1) (plain_py _ h2) (by have := min_le (b := ty.py.depth) h4; unfold deepest at this; omega) (fin rfl)
    · cases e
  | ne =>
    simp only [cmpT] at e
    split at e
    · rename_i hc
      cases e
      simp only [Bool.and_eq_true, decide_eq_true_eq] at hc
      obtain ⟨⟨h1, h2⟩, h4⟩ := hc
      obtain ⟨as, ra⟩ := reads_seen I r h1 sx rx
      obtain ⟨bs, rb⟩ := reads_seen I r h2 sy ry
      exact PySem.SeqAt.ne_plain ra rb (plain_py _ h1) (plain_py _ h2) (by have := min_le (b := ty.py.depth) h4; unfold deepest at this; omega) (fin rfl)
    · cases e
  | is_ =>
    simp only [cmpT] at e
    split at e
    · cases e
      cases sy
      exact op_isN pins s σ H _ _ v u Q I rx ry ⟨rfl, by rw [none_den sx]; exact q⟩
    · cases sy
      cases ry
      split at e <;> first
        | (cases e; refine isB (atom_of sx rx (by simp)) (fin ?_); first
            | (cases sx; cases rx; cases k <;> rfl)
            | (cases sx; cases rx; rename_i b; cases b <;> rfl)
            | (cases sx; cases rx; rfl)
            | (cases sx; obtain ⟨t, rfl⟩ := rx; rfl))
        | cases e
    · cases sy
      cases ry
      split at e <;> first
        | (cases e; refine isB (atom_of sx rx (by simp)) (fin ?_); first
            | (cases sx; cases rx; cases k <;> rfl)
            | (cases sx; cases rx; rename_i b; cases b <;> rfl)
            | (cases sx; cases rx; rfl)
            | (cases sx; obtain ⟨t, rfl⟩ := rx; rfl))
        | cases e
    · cases e
  | isNot =>
    simp only [cmpT] at e
    split at e
    · cases e
      cases sy
      exact op_notN pins s σ H _ _ v u Q I rx ry ⟨rfl, by rw [none_den sx]; exact q⟩
    · cases sy
      cases ry
      split at e <;> first
        | (cases e; refine isnotB (atom_of sx rx (by simp)) (fin ?_); first
            | (cases sx; cases rx; cases k <;> rfl)
            | (cases sx; cases rx; rename_i b; cases b <;> rfl)
            | (cases sx; cases rx; rfl)
            | (cases sx; obtain ⟨t, rfl⟩ := rx; rfl))
        | cases e
    · cases sy
      cases ry
      split at e <;> first
        | (cases e; refine isnotB (atom_of sx rx (by simp)) (fin ?_); first
            | (cases sx; cases rx; cases k <;> rfl)
            | (cases sx; cases rx; rename_i b; cases b <;> rfl)
            | (cases sx; cases rx; rfl)
            | (cases sx; obtain ⟨t, rfl⟩ := rx; rfl))
        | cases e
    · cases e
  | in_ =>
    simp only [cmpT] at e
    split at e
    · rename_i ys
      split at e
      · rename_i hc
        cases e
        simp only [Bool.and_eq_true, decide_eq_true_eq] at hc
        obtain ⟨⟨h1, h2⟩, h4⟩ := hc
        obtain ⟨as, ra⟩ := reads_seen I r h1 sx rx
        obtain ⟨bs, rb⟩ := reads_seen (t := .lst ys) I r (by simpa [T.data] using h2) sy ry
        simp only [T.py] at rb
        exact PySem.SeqAt.in_list_data rb ra (plain_pyAll _ h2) (plain_py _ h1) (by have := Nat.min_le_right (PyData.depthAll (pyAll ys)) tx.py.depth; unfold deepest at h4; omega)
          (fin (by unfold inT eqT; rw [pyAll_map, List.any_map]; rfl))
      · cases e
    · rename_i ys
      split at e
      · rename_i hc
        cases e
        simp only [Bool.and_eq_true, decide_eq_true_eq] at hc
        obtain ⟨⟨h1, h2⟩, h4⟩ := hc
        obtain ⟨as, ra⟩ := reads_seen I r h1 sx rx
        obtain ⟨bs, rb⟩ := reads_seen (t := .tup ys) I r (by simpa [T.data] using h2) sy ry
        simp only [T.py] at rb
        exact PySem.SeqAt.in_tuple_data rb ra (plain_pyAll _ h2) (plain_py _ h1) (by have := Nat.min_le_right (PyData.depthAll (pyAll ys)) tx.py.depth; unfold deepest at h4; omega)
          (fin (by unfold inT eqT; rw [pyAll_map, List.any_map]; rfl))
      · cases e
    · cases e
  | notIn =>
    simp only [cmpT] at e
    split at e
    · rename_i ys
      split at e
      · rename_i hc
        cases e
        simp only [Bool.and_eq_true, decide_eq_true_eq] at hc
        obtain ⟨⟨h1, h2⟩, h4⟩ := hc
        obtain ⟨as, ra⟩ := reads_seen I r h1 sx rx
        obtain ⟨bs, rb⟩ := reads_seen (t := .lst ys) I r (by simpa [T.data] using h2) sy ry
        simp only [T.py] at rb
        exact PySem.SeqAt.notIn_list_data rb ra (plain_pyAll _ h2) (plain_py _ h1) (by have := Nat.min_le_right (PyData.depthAll (pyAll ys)) tx.py.depth; unfold deepest at h4; omega)
          (fin (by unfold inT eqT; rw [pyAll_map, List.any_map]; rfl))
      · cases e
    · rename_i ys
      split at e
      · rename_i hc
        cases e
        simp only [Bool.and_eq_true, decide_eq_true_eq] at hc
        obtain ⟨⟨h1, h2⟩, h4⟩ := hc
        obtain ⟨as, ra⟩ := reads_seen I r h1 sx rx
        obtain ⟨bs, rb⟩ := reads_seen (t := .tup ys) I r (by simpa [T.data] using h2) sy ry
        simp only [T.py] at rb
        exact PySem.SeqAt.notIn_tuple_data rb ra (plain_pyAll _ h2) (plain_py _ h1) (by have := Nat.min_le_right (PyData.depthAll (pyAll ys)) tx.py.depth; unfold deepest at h4; omega)
          (fin (by unfold inT eqT; rw [pyAll_map, List.any_map]; rfl))
      · cases e
    · cases e
end
end Ice
end

section
set_option Elab.async false
set_option linter.all false
set_option maxRecDepth 100000
set_option maxHeartbeats 4000000
namespace Ice
open PySem PySem.Spec PyProof.Rows L2

section
variable {X : Cx} {Λ : Lay} {TB : List (Addr × Str)} {c : Cfg} {H : Hp}
theorem intsOf_vals {K : PySem.W.Frag} {c : Cfg} : ∀ {ds : List D} {ks : List Int} {vs : List V}, intsOf ds = some ks → DensD K Λ c ds vs → vs = ks.map V.int
  | [], ks, vs, e, h => by cases e; exact h
  | .t (.int i) :: ds, ks, vs, e, h => by
    simp only [intsOf, Option.map_eq_some_iff] at e
    obtain ⟨r, e1, rfl⟩ := e
    obtain ⟨v, q, rfl, h1, h2⟩ := h
    cases h1
    rw [intsOf_vals e1 h2, List.map_cons]
  | .t .non :: _, _, _, e, _ => by cases e
  | .t (.bl _) :: _, _, _, e, _ => by cases e
  | .t (.str _) :: _, _, _, e, _ => by cases e
  | .t (.tup _) :: _, _, _, e, _ => by cases e
  | .t (.lst _) :: _, _, _, e, _ => by cases e
  | .t (.ins _ _) :: _, _, _, e, _ => by cases e
  | .t (.dct _) :: _, _, _, e, _ => by cases e
  | .t (.fn _) :: _, _, _, e, _ => by cases e
  | .t (.scr _) :: _, _, _, e, _ => by cases e
  | .t (.wt _) :: _, _, _, e, _ => by cases e
  | .h _ :: _, _, _, e, _ => by cases e
theorem boolsOf_vals {K : PySem.W.Frag} {c : Cfg} : ∀ {ds : List D} {ks : List Bool} {vs : List V}, boolsOf ds = some ks → DensD K Λ c ds vs → vs = ks.map V.bl
  | [], ks, vs, e, h => by cases e; exact h
  | .t (.bl i) :: ds, ks, vs, e, h => by
    simp only [boolsOf, Option.map_eq_some_iff] at e
    obtain ⟨r, e1, rfl⟩ := e
    obtain ⟨v, q, rfl, h1, h2⟩ := h
    cases h1
    rw [boolsOf_vals e1 h2, List.map_cons]
  | .t .non :: _, _, _, e, _ => by cases e
  | .t (.int _) :: _, _, _, e, _ => by cases e
  | .t (.str _) :: _, _, _, e, _ => by cases e
  | .t (.tup _) :: _, _, _, e, _ => by cases e
  | .t (.lst _) :: _, _, _, e, _ => by cases e
  | .t (.ins _ _) :: _, _, _, e, _ => by cases e
  | .t (.dct _) :: _, _, _, e, _ => by cases e
  | .t (.fn _) :: _, _, _, e, _ => by cases e
  | .t (.scr _) :: _, _, _, e, _ => by cases e
  | .t (.wt _) :: _, _, _, e, _ => by cases e
  | .h _ :: _, _, _, e, _ => by cases e
/-- a tuple of ints as a key -/
theorem key_at {tks : List T} {ks : List Int} {x : V} (r : Rel X.K Λ TB c H) (hx : Den X.K Λ c.S (.tup tks) x) (e : intsOf (tks.map .t) = some ks) : ∃ b, x = .ref b ∧ H b = some (.tup ((ks.map Sum.inl).map kV)) := by
  simp only [Den] at hx
  obtain ⟨b, vs, rfl, h1, h2⟩ := hx
  have e2 := intsOf_vals e (DensD.of h2)
  refine ⟨b, rfl, ?_⟩
  rw [r.sub _ _ h1, e2, List.map_map]
  rfl
theorem dT_val {K : PySem.W.Frag} {S : Hp} : ∀ {kvs : List (List Int × T)} {kv : List (List Key × V)} (ks : List Int), DenTs K Λ S kvs kv → match kvs.lookup ks with
    | some t => ∃ v, valV kv (ks.map Sum.inl) = some v ∧ Den K Λ S t v
    | none => valV kv (ks.map Sum.inl) = none
  | [], kv, ks, h => by
    cases (show kv = [] from h)
    exact rfl
  | (k, t) :: kvs, kv, ks, h => by
    obtain ⟨v, r, rfl, h1, h2⟩ := h
    have ih := dT_val ks h2
    by_cases e : ks = k
    · subst e
      rw [List.lookup_cons_self]
      exact ⟨v, valV_pos rfl, h1⟩
    · have e' : (ks == k) = false := beq_eq_false_iff_ne.mpr e
      have ne : ¬ (List.map Sum.inl k : List Key) = ks.map Sum.inl := fun z => e ((List.map_inj_right (fun a b q => Sum.inl.inj q)).mp z).symm
      rw [List.lookup_cons, e']
      have e3 : valV (((k.map Sum.inl : List Key), v) :: r) (ks.map Sum.inl) = valV r (ks.map Sum.inl) := valV_neg (p := ((k.map Sum.inl : List Key), v)) ne
      cases q : kvs.lookup ks with
      | none =>
        rw [q] at ih
        show valV _ _ = none
        rw [e3]
        exact ih
      | some t' =>
        rw [q] at ih
        obtain ⟨u, i1, i2⟩ := ih
        exact ⟨u, e3.trans i1, i2⟩
theorem dget_of {tks : List T} {ks : List Int} {x : V} {k : Nat} {kvs : List (List Int × T)} (r : Rel X.K Λ TB c H) (hx : Den X.K Λ c.S (.tup tks) x) (e : intsOf (tks.map .t) = some ks) (hk : c.st[k]? = some (.dT kvs)) :
    ∃ o, DGet H (c.φ k) x o ∧ match kvs.lookup ks with
      | some t => ∃ v, o = some v ∧ Den X.K Λ c.S t v
      | none => o = none := by
  obtain ⟨b, rfl, hb⟩ := key_at r hx e
  obtain ⟨kv, h1, h2⟩ := (r.obj k _ hk (by intro z; cases z)).1
  refine ⟨_, DGet.t h1 hb, ?_⟩
  have q := dT_val ks h2
  cases z : kvs.lookup ks with
  | none =>
    rw [z] at q
    exact q
  | some t =>
    rw [z] at q
    exact q
theorem seen_h {k : Nat} {y : V} {t : T} (r : Rel X.K Λ TB c H) (hb : DenD X.K Λ c (.h k) y) (e : viewD c.st (.h k) = some t) : ∃ ys, t = .lst ys := by
  simp only [viewD] at e
  split at e
  · obtain ⟨ys, _, e2⟩ := Option.map_eq_some_iff.mp e
    exact ⟨ys, e2.symm⟩
  · cases e
theorem opCmp (o : COp) (hu : X.A.units + 200 < cLine) : OpR X (compareOp (opC o)) (rCmp X.K Λ TB o) := by
  intro pins s σ H x y v u Q I rx ry ⟨c, a, b, k, r, ha, hb, e, q⟩
  have gen : ∀ {tx ty : T}, viewD c.st a = some tx → viewD c.st b = some ty → cmpT o tx ty = some k → wpAny (model X.prog X.w) X.A (compareOp (opC o) v u) (EP X pins σ Q) X.xe s := fun e1 e2 e3 =>
    cmpT_ok o hu I r rx ry (seen_of r ha e1) (seen_of r hb e2) e3 q
  unfold cmpD at e
  split at e
  · cases e
    obtain ⟨_, rfl⟩ := ha
    cases hb
    exact op_isN pins s σ H _ _ v u Q I rx ry ⟨rfl, q⟩
  · cases e
    obtain ⟨_, rfl⟩ := ha
    cases hb
    exact op_notN pins s σ H _ _ v u Q I rx ry ⟨rfl, q⟩
  · rename_i ks j
    split at e
    · rename_i kvs hj
      obtain ⟨ns, e1, e2⟩ := Option.map_eq_some_iff.mp e
      obtain ⟨_, rfl⟩ := hb
      obtain ⟨o, g, ho⟩ := dget_of r ha e1 hj
      obtain rfl : u = Value.ref (c.φ j) := ry
      refine d_in (by omega) I g rx fun s' I' => ?_
      refine fin_bl I' q ?_
      rw [← e2]
      cases z : kvs.lookup ns with
      | none =>
        rw [z] at ho
        rw [show o = none from ho]
        rfl
      | some t =>
        rw [z] at ho
        obtain ⟨v, e3, _⟩ := ho
        rw [e3]
        rfl
    · obtain ⟨ty, e1, e2⟩ := Option.bind_eq_some_iff.mp e
      exact gen (by rfl) e1 e2
  · rename_i ks j
    split at e
    · rename_i kvs hj
      obtain ⟨ns, e1, e2⟩ := Option.map_eq_some_iff.mp e
      obtain ⟨_, rfl⟩ := hb
      obtain ⟨o, g, ho⟩ := dget_of r ha e1 hj
      obtain rfl : u = Value.ref (c.φ j) := ry
      refine d_notIn (by omega) I g rx fun s' I' => ?_
      refine fin_bl I' q ?_
      rw [← e2]
      cases z : kvs.lookup ns with
      | none =>
        rw [z] at ho
        rw [show o = none from ho]
        rfl
      | some t =>
        rw [z] at ho
        obtain ⟨v, e3, _⟩ := ho
        rw [e3]
        rfl
    · obtain ⟨ty, e1, e2⟩ := Option.bind_eq_some_iff.mp e
      exact gen (by rfl) e1 e2
  · obtain ⟨tx, e1, e⟩ := Option.bind_eq_some_iff.mp e
    obtain ⟨ty, e2, e⟩ := Option.bind_eq_some_iff.mp e
    exact gen e1 e2 e
/-! ### truth -/
theorem DensD.isEmpty {K : PySem.W.Frag} {c : Cfg} {ds : List D} {vs : List V} (h : DensD K Λ c ds vs) : ds.isEmpty = vs.isEmpty := by
  have l := h.length
  cases ds with
  | nil => cases vs with
    | nil => rfl
    | cons _ _ => cases l
  | cons _ _ => cases vs with
    | nil => cases l
    | cons _ _ => rfl
theorem truth_ok {d : D} {x : V} {k : Bool} (r : Rel X.K Λ TB c H) (hd : DenD X.K Λ c d x) (e : truth c.st d = some k) : TruV X.K x H k := by
  cases d with
  | t t =>
    cases t with
    | non => cases e; cases hd; exact rfl
    | bl b => cases e; cases hd; exact rfl
    | int i => cases e; cases hd; exact rfl
    | str z =>
      simp only [truth] at e
      split at e
      · rename_i hz
        cases e
        cases hd
        exact ⟨by rw [sizeLine_eq]; exact hz, rfl⟩
      · cases e
    | tup xs =>
      cases e
      have h : Den X.K Λ c.S (.tup xs) x := hd
      simp only [Den] at h
      obtain ⟨a, vs, rfl, h1, h2⟩ := h
      exact .inr (.inl ⟨vs, .inl (.inl (r.sub _ _ h1)), by rw [← (DensD.of h2).isEmpty]; simp⟩)
    | lst xs =>
      cases e
      have h : Den X.K Λ c.S (.lst xs) x := hd
      simp only [Den] at h
      obtain ⟨a, vs, rfl, h1, h2⟩ := h
      exact .inl ⟨vs, .inl (.inl (r.sub _ _ h1)), by rw [← (DensD.of h2).isEmpty]; simp⟩
    | _ => cases e
  | h j =>
    simp only [truth] at e
    split at e
    · rename_i xs hx
      cases e
      obtain ⟨_, rfl⟩ := hd
      obtain ⟨vs, h1, h2⟩ := (r.obj j _ hx (by intro z; cases z)).1
      exact .inl ⟨vs, .inl (.inl h1), by rw [← h2.isEmpty]⟩
    · cases e
/-! ### subscripts -/
def rSub (K : PySem.W.Frag) (Λ : Lay) (TB : List (Addr × Str)) : R2 := fun x y H Q => ∃ c a b d, Rel K Λ TB c H ∧ DenD K Λ c a x ∧ DenD K Λ c b y ∧ subD c.st a b = some d ∧ ∀ v, DenD K Λ c d v → Q v H
theorem subD_cases {st : Store} {a b d : D} (h : subD st a b = some d) :
    (∃ k ks kvs ns t, a = .h k ∧ b = .t (.tup ks) ∧ st[k]? = some (.dT kvs) ∧ intsOf (ks.map .t) = some ns ∧ kvs.lookup ns = some t ∧ d = .t t) ∨
    ∃ i xs, b = .t (.int i) ∧ items st a = some xs ∧ atI xs i = some d := by
  unfold subD at h
  split at h
  · rename_i k ks
    split at h
    · rename_i kvs hk
      obtain ⟨ns, e1, h⟩ := Option.bind_eq_some_iff.mp h
      obtain ⟨t, e2, rfl⟩ := Option.map_eq_some_iff.mp h
      exact .inl ⟨k, ks, kvs, ns, t, rfl, rfl, hk, e1, e2, rfl⟩
    · cases h
  · obtain ⟨xs, e1, h⟩ := Option.bind_eq_some_iff.mp h
    exact .inr ⟨_, xs, rfl, e1, h⟩
  · cases h
theorem atI_den {K : PySem.W.Frag} {c : Cfg} {xs : List D} {vs : List V} {i : Int} {d : D} (h : DensD K Λ c xs vs) (e : atI xs i = some d) : ∃ v, atI vs i = some v ∧ DenD K Λ c d v := by
  unfold atI at e ⊢
  rw [← h.length]
  obtain ⟨j, e1, e2⟩ := Option.bind_eq_some_iff.mp e
  obtain ⟨v, h1, h2⟩ := h.get e2
  exact ⟨v, by rw [e1]; exact h1, h2⟩
theorem ixSub (hu : X.A.units + 1 < cLine) : IxR X (rSub X.K Λ TB) := by
  intro value slice pins s σ H x y v u Q I rx ry ⟨c, a, b, d, r, ha, hb, e, q⟩ hs
  rcases subD_cases e with ⟨k, ks, kvs, ns, t, rfl, rfl, hk, e1, e2, rfl⟩ | ⟨i, xs, rfl, e1, e2⟩
  · obtain ⟨_, rfl⟩ := ha
    obtain ⟨o, g, ho⟩ := dget_of r hb e1 hk
    rw [e2] at ho
    obtain ⟨w, rfl, hw⟩ := ho
    obtain rfl : v = Value.ref (c.φ k) := rx
    have ti := dict_typeIs I g
    unfold subscriptTail
    refine wpAny_bind ?_
    rw [getitemInPython_of_ne ti.not_modules]
    refine wpAny_bind (wpAny_specialOf ti PySem.F.slot_dict_getitem.lookup ?_)
    have fin : wpAny (model X.prog X.w) X.A (subscripted slice false (.ref (c.φ k)) u) (fun r s₃ => wpAny (model X.prog X.w) X.A (letTemporaryGo value (.ref (c.φ k)) r >>= fun _ => pure r) (EP X pins σ Q) X.xe s₃) X.xe s := by
      rw [hs]
      exact wpAny_operating (d_getItem hu I g ry fun w' s' I' rw' => wpAny_bind (wpAny_letTemporaryGo (wpAny_pure ⟨w, H, I', rw', q w hw⟩)))
    exact wpAny_pure (wpAny_bind fin)
  · cases hb
    obtain ⟨p, vs, rfl, hq, hv⟩ := items_of r ha e1
    obtain ⟨w, e3, hw⟩ := atI_den hv e2
    rcases hq with hq | ⟨hq, _⟩
    · exact ix_list value slice pins s σ H _ _ v u Q I rx ry ⟨p, vs, i, w, rfl, rfl, hq, e3, q w hw⟩ hs
    · exact ix_tup value slice pins s σ H _ _ v u Q I rx ry ⟨p, vs, i, w, rfl, rfl, hq, e3, q w hw⟩ hs
end
end Ice
end

section
set_option Elab.async false
set_option linter.all false
set_option maxRecDepth 100000
set_option maxHeartbeats 4000000
namespace Ice
open PySem PySem.Spec PyProof.Rows PySem.W L2

/-! ### min, max of two data -/
section
variable {prog : Program} {w : World} {A : Around} {E : Value → Shared → Prop} {s : Shared}
theorem two_at {a b : Value} {i : Nat} {v : Value} (h : (#[a, b] : Array Value)[i]? = some v) : (i = 0 ∧ v = a) ∨ (i = 1 ∧ v = b) := by
  match i, h with
  | 0, h => exact .inl ⟨rfl, (Option.some.inj h).symm⟩
  | 1, h => exact .inr ⟨rfl, (Option.some.inj h).symm⟩
  | n + 2, h => simp at h
theorem readsAll2 {h : Heap} {a b : Value} {x y : PyData} {as bs : List Addr} (ra : Reads h a x as) (rb : Reads h b y bs) : ReadsAll h (#[a, b] : Array Value).toList [x, y] (as ++ (bs ++ [])) := .cons ra (.cons rb .nil)
theorem min_two_data {a b : Value} {x y : PyData} {as bs : List Addr} {Q : Value → Shared → Prop} (hh : A.handled = none) (ra : Reads s.heap a x as) (rb : Reads s.heap b y bs) (ha : PySem.W.AlikeAll [x, y]) (hu : A.units + 1 + PyData.depthAll [x, y] < cLine)
    (h : ∀ h' tk, (∀ b o, s.heap.get? b = some o → h'.get? b = some o) → Q (if PySem.W.dataLt y x = true then b else a) { s with heap := h', toks := tk }) :
    wpAny (model prog w) A (call (.builtin "min") [a, b]) Q E s := by
  have hname : (toString "min" ++ toString ".loop" : String) = "min.loop" := by decide
  refine PySem.call_function_tree PySem.F.kind_min PySem.F.plain_min PySem.F.entry_min (PySem.F.args_min2 _ _) ?_
  show wpAny _ A.in1 (Builtin.Builtins.bindParams "min" ["key", "default"] 0 ⟨[], []⟩ >>= _) _ _ s
  refine wpAny_bind (wpAny_of_eq (show Builtin.Builtins.bindParams "min" ["key", "default"] 0 ⟨[], []⟩ = pure [none, none] from rfl) ?_)
  show wpAny _ A.in1 (newTuple [a, b] >>= _) _ _ s
  refine wpAny_bind (wpAny_newObj_type ?_)
  have hT : (s.heap.push { cls := .type "tuple", data := .seq #[a, b] }).IsTuple s.heap.objs.size #[a, b] := ⟨_, Heap.get?_push_size _ rfl, rfl, 0, rfl⟩
  have k0 : ∀ c o, s.heap.get? c = some o → (s.heap.push { cls := .type "tuple", data := .seq #[a, b] }).get? c = some o := fun c o e => Heap.get?_push_of_some _ e
  refine wpAny_bind (iter_tupleW (A := A.in1) hh hT fun s₂ e W st hfp hw hk => ?_)
  have hSf : s₂.heap.objs.size ∉ _ := fun hm => Nat.lt_irrefl _ (hfp _ hm)
  refine wpAny_bind (wpAny_newObj_type ?_)
  rw [hname]
  have rr := readsAll2 (reads_keeps k0 ra) (reads_keeps k0 rb)
  refine wpAny_pure ⟨plainId_quiet PySem.F.plain_min_loop _, codeAny_min_loop_firstH W _ hw (fun i j => PySem.W.dataLt ([x, y].getD i .none) ([x, y].getD j .none)) (cmpIn_lt (s := { s with heap := s.heap.push { cls := .type "tuple", data := .seq #[a, b] } }) (A := A.in1) rr ha (by show A.units + 1 + _ < _; exact hu)) s₂.heap.objs.size hSf (fresh_in hk) _ (Nat.succ_pos 1) (fun b o e => Heap.get?_push_of_some _ (hk b o e)) (W.frame 0 s₂ _ s₂.toks st (Nat.le_refl _) fun b _ o e => Heap.get?_push_of_some _ e) (Heap.get?_push_size _ rfl) fun v s' hP hm => ?_⟩
  obtain ⟨h', tk, rfl, hk'⟩ := moved_old e rfl (Moved.drop_new (tk := s₂.toks) hm (Nat.le_refl _))
  have hq := h h' tk fun b o e => hk' b o (k0 b o e)
  have e1 : v = if PySem.W.dataLt y x = true then b else a := by
    rcases two_at hP with ⟨i, rfl⟩ | ⟨i, rfl⟩
    · by_cases c : PySem.W.dataLt y x = true
      · simp [argBest, c] at i
      · rw [if_neg c]
    · by_cases c : PySem.W.dataLt y x = true
      · rw [if_pos c]
      · simp [argBest, c] at i
  rw [e1]
  exact hq
theorem max_two_data {a b : Value} {x y : PyData} {as bs : List Addr} {Q : Value → Shared → Prop} (hh : A.handled = none) (ra : Reads s.heap a x as) (rb : Reads s.heap b y bs) (ha : PySem.W.AlikeAll [x, y]) (hu : A.units + 1 + PyData.depthAll [x, y] < cLine)
    (h : ∀ h' tk, (∀ b o, s.heap.get? b = some o → h'.get? b = some o) → Q (if PySem.W.dataLt x y = true then b else a) { s with heap := h', toks := tk }) :
    wpAny (model prog w) A (call (.builtin "max") [a, b]) Q E s := by
  have hname : (toString "max" ++ toString ".loop" : String) = "max.loop" := by decide
  refine PySem.call_function_tree PySem.F.kind_max PySem.F.plain_max PySem.F.entry_max (PySem.F.args_max2 _ _) ?_
  show wpAny _ A.in1 (Builtin.Builtins.bindParams "max" ["key", "default"] 0 ⟨[], []⟩ >>= _) _ _ s
  refine wpAny_bind (wpAny_of_eq (show Builtin.Builtins.bindParams "max" ["key", "default"] 0 ⟨[], []⟩ = pure [none, none] from rfl) ?_)
  show wpAny _ A.in1 (newTuple [a, b] >>= _) _ _ s
  refine wpAny_bind (wpAny_newObj_type ?_)
  have hT : (s.heap.push { cls := .type "tuple", data := .seq #[a, b] }).IsTuple s.heap.objs.size #[a, b] := ⟨_, Heap.get?_push_size _ rfl, rfl, 0, rfl⟩
  have k0 : ∀ c o, s.heap.get? c = some o → (s.heap.push { cls := .type "tuple", data := .seq #[a, b] }).get? c = some o := fun c o e => Heap.get?_push_of_some _ e
  refine wpAny_bind (iter_tupleW (A := A.in1) hh hT fun s₂ e W st hfp hw hk => ?_)
  have hSf : s₂.heap.objs.size ∉ _ := fun hm => Nat.lt_irrefl _ (hfp _ hm)
  refine wpAny_bind (wpAny_newObj_type ?_)
  rw [hname]
  have rr := readsAll2 (reads_keeps k0 ra) (reads_keeps k0 rb)
  refine wpAny_pure ⟨plainId_quiet PySem.F.plain_max_loop _, codeAny_max_loop_firstH W _ hw (fun i j => PySem.W.dataLt ([x, y].getD j .none) ([x, y].getD i .none)) (cmpIn_gt (s := { s with heap := s.heap.push { cls := .type "tuple", data := .seq #[a, b] } }) (A := A.in1) rr ha (by show A.units + 1 + _ < _; exact hu)) s₂.heap.objs.size hSf (fresh_in hk) _ (Nat.succ_pos 1) (fun b o e => Heap.get?_push_of_some _ (hk b o e)) (W.frame 0 s₂ _ s₂.toks st (Nat.le_refl _) fun b _ o e => Heap.get?_push_of_some _ e) (Heap.get?_push_size _ rfl) fun v s' hP hm => ?_⟩
  obtain ⟨h', tk, rfl, hk'⟩ := moved_old e rfl (Moved.drop_new (tk := s₂.toks) hm (Nat.le_refl _))
  have hq := h h' tk fun b o e => hk' b o (k0 b o e)
  have e1 : v = if PySem.W.dataLt x y = true then b else a := by
    rcases two_at hP with ⟨i, rfl⟩ | ⟨i, rfl⟩
    · by_cases c : PySem.W.dataLt x y = true
      · simp [argBest, c] at i
      · rw [if_neg c]
    · by_cases c : PySem.W.dataLt x y = true
      · rw [if_pos c]
      · simp [argBest, c] at i
  rw [e1]
  exact hq
end

/-! ### the calls of built-ins, by values -/
section
variable {X : Cx} {Λ : Lay} {TB : List (Addr × Str)} {c : Cfg} {H : Hp}
/-- what a value or a handle gives -/
def OutD (K : PySem.W.Frag) (Λ : Lay) (TB : List (Addr × Str)) (c : Cfg) (H : Hp) (d : D) (Q : V → Hp → Prop) : Prop := ∀ c' H' v, After K Λ TB c H c' H' → c'.st = c.st → DenD K Λ c' d v → Q v H'
theorem OutD.out {K : PySem.W.Frag} {z : T} {Q : V → Hp → Prop} (h : OutD K Λ TB c H (.t z) Q) : Out K Λ TB c H z Q := fun c' H' v a e d => h c' H' v a e d
theorem OutD.here {K : PySem.W.Frag} {d : D} {v : V} {Q : V → Hp → Prop} (h : OutD K Λ TB c H d Q) (r : Rel K Λ TB c H) (hd : DenD K Λ c d v) : Q v H := h c H v (After.refl r) rfl hd
theorem Wp.outD {K : PySem.W.Frag} {d : D} {Q : V → Hp → Prop} {E : XK} (h : Wp K Λ TB (.ok d c.st) c H (DenD K Λ) Q E) : OutD K Λ TB c H d Q := fun c' H' v a e hd => h c' H' v a e hd
theorem litems_of {d : D} {v : V} {xs : List D} {K : PySem.W.Frag} (r : Rel K Λ TB c H) (h : DenD K Λ c d v) (e : litems c.st d = some xs) : ∃ a vs, v = .ref a ∧ SqL K H a vs ∧ DensD K Λ c xs vs := by
  cases d with
  | t x =>
    cases x with
    | lst ys =>
      have e : some (ys.map D.t) = some xs := e
      cases e
      have h' : Den K Λ c.S (.lst ys) v := h
      simp only [Den] at h'
      obtain ⟨a, vs, e1, e2, e3⟩ := h'
      exact ⟨a, vs, e1, .inl (.inl (r.sub _ _ e2)), DensD.of e3⟩
    | scr ns =>
      have e : some (ns.map fun n => D.t (.int n)) = some xs := e
      cases e
      have h' : Den K Λ c.S (.scr ns) v := h
      simp only [Den] at h'
      obtain ⟨a, e1, e2⟩ := h'
      exact ⟨a, _, e1, SqL.mono r.sub e2, DensD.ints ns⟩
    | _ => cases e
  | h k =>
    obtain ⟨hk, rfl⟩ := h
    simp only [litems] at e
    split at e
    · rename_i ys hx
      cases e
      obtain ⟨vs, q1, q2⟩ := (r.obj k _ hx (by intro z; cases z)).1
      exact ⟨_, vs, rfl, .inl (.inl q1), q2⟩
    · cases e
theorem Dens.mem {K : PySem.W.Frag} {S : Hp} : ∀ {xs : List T} {vs : List V} {i : Nat} {v : V}, Dens K Λ S xs vs → vs[i]? = some v → ∃ x, xs[i]? = some x ∧ x ∈ xs ∧ Den K Λ S x v
  | [], vs, i, v, h, e => by
    rw [show vs = [] from h] at e
    simp at e
  | x :: xs, vs, 0, v, h, e => by
    obtain ⟨u, r, rfl, h1, h2⟩ := h
    simp at e
    subst e
    exact ⟨x, rfl, List.mem_cons_self, h1⟩
  | x :: xs, vs, i + 1, v, h, e => by
    obtain ⟨u, r, rfl, h1, h2⟩ := h
    obtain ⟨y, e1, e2, e3⟩ := Dens.mem (i := i) (v := v) h2 (by simpa using e)
    exact ⟨y, by simpa using e1, List.mem_cons_of_mem _ e2, e3⟩
theorem dataAll_mem : ∀ {xs : List T} {x : T}, dataAll xs = true → x ∈ xs → x.data = true
  | [], _, _, h => by cases h
  | y :: ys, x, hd, h => by
    have hd' : y.data = true ∧ dataAll ys = true := by simpa [dataAll] using hd
    rcases List.mem_cons.mp h with rfl | h
    · exact hd'.1
    · exact dataAll_mem hd'.2 h
theorem py_none {x : T} (hd : x.data = true) (hn : x.isNon = false) : x.py ≠ .none := by
  cases x <;> simp_all [T.py, T.data, T.isNon]
structure GoodL (xs : List T) : Prop where
  dat : dataAll xs = true
  alk : PySem.W.AlikeAll (pyAll xs)
  dep : PyData.depthAll (pyAll xs) ≤ deepest
theorem goodL_of {xs : List T} (h : goodL xs = true) : GoodL xs := by
  unfold goodL at h
  simp only [Bool.and_eq_true, decide_eq_true_eq, List.all_eq_true, Bool.not_eq_true'] at h
  obtain ⟨⟨⟨h1, h2⟩, h3⟩, h4⟩ := h
  refine ⟨h1, ⟨fun x hx y hy => ?_, fun x hx => ?_⟩, h3⟩
  · rw [pyAll_map] at hx hy
    obtain ⟨a, ha, rfl⟩ := List.mem_map.mp hx
    obtain ⟨b, hb, rfl⟩ := List.mem_map.mp hy
    unfold alikes at h2
    exact List.all_eq_true.mp (List.all_eq_true.mp h2 a ha) b hb
  · rw [pyAll_map] at hx
    obtain ⟨a, ha, rfl⟩ := List.mem_map.mp hx
    exact py_none (dataAll_mem h1 ha) (h4 a ha)
/-- the item that reads as z -/
theorem pick_den {pins : List (Addr × Obj)} {σ : L2.St} {s : Shared} {h' : Heap} {xs : List T} {vs : List V} {us : List Value} {i : Nat} {u : Value} {z : T} {bs : List Addr} (I : Inv X pins σ H s) (r : Rel X.K Λ TB c H) (hd : dataAll xs = true) (hv : Dens X.K Λ c.S xs vs) (rv : Vals vs us) (hu : us[i]? = some u)
    (k : ∀ b o, s.heap.get? b = some o → h'.get? b = some o) (hr : Reads h' u z.py bs) (hz : z ∈ xs) : ∃ v, RelV v u ∧ Den X.K Λ c.S z v := by
  have hi : i < vs.length := by
    rw [rv.length]
    exact (List.getElem?_eq_some_iff.mp hu).1
  obtain ⟨u', e1, e2⟩ := rv.get (List.getElem?_eq_getElem hi)
  rw [hu] at e1
  cases e1
  obtain ⟨x, e3, e4, e5⟩ := hv.mem (List.getElem?_eq_getElem hi)
  obtain ⟨as, ra⟩ := reads_den I r x _ u (dataAll_mem hd e4) e5 e2
  have q := (reads_det (fun b o e _ => k b o e) ra hr).1
  rw [py_inj z x (dataAll_mem hd hz) (dataAll_mem hd e4) q]
  exact ⟨_, e2, e5⟩
theorem fold_mem (f : T → T → Bool) : ∀ (xs : List T) (x : T), xs.foldl (fun a y => if f a y then y else a) x ∈ x :: xs
  | [], x => by simp
  | y :: ys, x => by
    rw [List.foldl_cons]
    by_cases c : f x y = true
    · rw [if_pos c]
      exact List.mem_cons_of_mem _ (fold_mem f ys y)
    · rw [if_neg c]
      rcases List.mem_cons.mp (fold_mem f ys x) with h | h
      · rw [h]
        exact List.mem_cons_self
      · exact List.mem_cons_of_mem _ (List.mem_cons_of_mem _ h)
theorem minT_mem (x : T) (xs : List T) : minT x xs ∈ x :: xs := fold_mem (fun a y => ltT y a) xs x
theorem maxT_mem (x : T) (xs : List T) : maxT x xs ∈ x :: xs := fold_mem (fun a y => ltT a y) xs x
theorem minT_py (x : T) (xs : List T) : (minT x xs).py = minD x.py (pyAll xs) := by
  unfold minT minD
  rw [pyAll_map, List.foldl_map]
  induction xs generalizing x with
  | nil => rfl
  | cons y ys ih =>
    rw [List.foldl_cons, List.foldl_cons]
    by_cases c : ltT y x = true
    · rw [if_pos c, if_pos (show PySem.W.dataLt y.py x.py = true from c)]
      exact ih y
    · rw [if_neg c, if_neg (show ¬ PySem.W.dataLt y.py x.py = true from c)]
      exact ih x
theorem maxT_py (x : T) (xs : List T) : (maxT x xs).py = maxD x.py (pyAll xs) := by
  unfold maxT maxD
  rw [pyAll_map, List.foldl_map]
  induction xs generalizing x with
  | nil => rfl
  | cons y ys ih =>
    rw [List.foldl_cons, List.foldl_cons]
    by_cases c : ltT x y = true
    · rw [if_pos c, if_pos (show PySem.W.dataLt x.py y.py = true from c)]
      exact ih y
    · rw [if_neg c, if_neg (show ¬ PySem.W.dataLt x.py y.py = true from c)]
      exact ih x
theorem one_of {vs : List V} {d : D} {K : PySem.W.Frag} (h : DensD K Λ c [d] vs) : ∃ v, vs = [v] ∧ DenD K Λ c d v := by
  obtain ⟨v, r, rfl, h1, h2⟩ := h
  cases (show r = [] from h2)
  exact ⟨v, rfl, h1⟩
theorem two_of {vs : List V} {d e : D} {K : PySem.W.Frag} (h : DensD K Λ c [d, e] vs) : ∃ v u, vs = [v, u] ∧ DenD K Λ c d v ∧ DenD K Λ c e u := by
  obtain ⟨v, r, rfl, h1, h2⟩ := h
  obtain ⟨u, rfl, h3⟩ := one_of h2
  exact ⟨v, u, rfl, h1, h3⟩
def rBi (K : PySem.W.Frag) (Λ : Lay) (TB : List (Addr × Str)) (b : Bi) : List V → Hp → VK → Prop := fun vs H Q => ∃ c ds d, Rel K Λ TB c H ∧ DensD K Λ c ds vs ∧ biD b ds c.st = some d ∧ OutD K Λ TB c H d Q
theorem one_some {ds : List D} {f : D → Option D} {d : D} (h : one ds f = some d) : ∃ e, ds = [e] ∧ f e = some d := by
  unfold one at h
  split at h
  · exact ⟨_, rfl, h⟩
  · cases h
theorem oneTwo_some {ds : List D} {f : D → Option D} {g : D → D → Option D} {d : D} (h : oneTwo ds f g = some d) : (∃ e, ds = [e] ∧ f e = some d) ∨ ∃ e u, ds = [e, u] ∧ g e u = some d := by
  unfold oneTwo at h
  split at h
  · exact .inl ⟨_, rfl, h⟩
  · exact .inr ⟨_, _, rfl, h⟩
  · cases h
theorem cr_len : CallR X (.builtin "len") (rBi X.K Λ TB .len) := by
  intro pins s σ H vs us Q I rv ⟨c, ds, d, r, hd, e, q⟩
  obtain ⟨a, rfl, e0⟩ := one_some e
  replace e := e0
  obtain ⟨v, rfl, hv⟩ := one_of hd
  have gen : (items c.st a).map (fun xs => D.t (.int (xs.length : Int))) = some d → wpAny (model X.prog X.w) X.A (call (.builtin "len") us) (EP X pins σ Q) X.xe s := fun e => by
    obtain ⟨xs, e1, rfl⟩ := Option.map_eq_some_iff.mp e
    obtain ⟨p, ws, rfl, hq, hw⟩ := items_of r hv e1
    refine call_len_seq pins s σ H _ us Q I rv ⟨p, ws, rfl, hq.imp_right (·.1), ?_⟩
    rw [← hw.length]
    exact q.here r rfl
  unfold lenD at e
  split at e
  · split at e
    · rename_i hz
      cases e
      cases hv
      exact call_len_str pins s σ H _ us Q I rv ⟨_, rfl, by rw [sizeLine_eq]; exact hz, q.here r rfl⟩
    · cases e
  · exact gen e
theorem cr_int : CallR X (.type "int") (rBi X.K Λ TB .int) := by
  intro pins s σ H vs us Q I rv ⟨c, ds, d, r, hd, e, q⟩
  obtain ⟨a, rfl, e0⟩ := one_some e
  replace e := e0
  obtain ⟨v, rfl, hv⟩ := one_of hd
  unfold intD at e
  split at e
  · cases e
    cases hv
    exact call_int1 pins s σ H _ us Q I rv (.inl ⟨_, rfl, q.here r rfl⟩)
  · cases e
    cases hv
    exact call_int1 pins s σ H _ us Q I rv (.inr ⟨_, rfl, q.here r rfl⟩)
  · cases e
theorem Dens.wt {K : PySem.W.Frag} {xs : List T} {v : V} {S : Hp} (h : Den K Λ S (.wt xs) v) : ∃ a vs, v = .ref a ∧ SqT K S a vs ∧ Dens K Λ S xs vs := by
  simp only [Den] at h
  exact h
theorem cr_tup : CallR X (.type "tuple") (rBi X.K Λ TB .tuple) := by
  intro pins s σ H vs us Q I rv ⟨c, ds, d, r, hd, e, q⟩
  obtain ⟨a, rfl, e0⟩ := one_some e
  replace e := e0
  obtain ⟨v, rfl, hv⟩ := one_of hd
  unfold tupD at e
  split at e
  · cases e
    have hv' : Den X.K Λ c.S (.wt _) v := hv
    obtain ⟨p, ws, rfl, h1, h2⟩ := Dens.wt hv'
    exact call_tuple_of pins s σ H _ us Q I rv ⟨p, ws, rfl, .inr ⟨SqT.mono r.sub h1, q.here r hv'⟩⟩
  · rename_i hne
    obtain ⟨xs, e1, e⟩ := Option.bind_eq_some_iff.mp e
    obtain ⟨ys, e2, rfl⟩ := Option.map_eq_some_iff.mp e
    obtain ⟨p, ws, rfl, hq, hw⟩ := items_of r hv e1
    have hw' := Dens.trees e2 hw
    refine call_tuple_of pins s σ H _ us Q I rv ⟨p, ws, rfl, ?_⟩
    rcases hq with hq | ⟨hq, zs, rfl | rfl⟩
    · exact .inl ⟨hq, fun l hl => q.out.tup r hw' hl⟩
    · refine .inr ⟨hq, q.here r ?_⟩
      have e1 : some (zs.map D.t) = some xs := e1
      cases e1
      rw [trees_map] at e2
      cases e2
      exact hv
    · exact absurd rfl (hne zs)
theorem cr_sumB (hc : X.calm = true) : CallR X (.builtin "sum") (rBi X.K Λ TB .sum) := by
  intro pins s σ H vs us Q I rv ⟨c, ds, d, r, hd, e, q⟩
  obtain ⟨a, rfl, e0⟩ := one_some e
  replace e := e0
  obtain ⟨v, rfl, hv⟩ := one_of hd
  obtain ⟨xs, e1, e⟩ := Option.bind_eq_some_iff.mp e
  obtain ⟨is, e2, rfl⟩ := Option.map_eq_some_iff.mp e
  obtain ⟨p, ws, rfl, hq, hw⟩ := items_of r hv e1
  have hi := intsOf_vals e2 hw
  subst hi
  rcases hq with hq | ⟨hq, _⟩
  · exact cr_sum hc pins s σ H _ us Q I rv ⟨p, is, rfl, hq, q.here r rfl⟩
  · obtain ⟨its, r2, ht, _⟩ := I.tuple hq
    have hI := r2.ints
    obtain ⟨xs, hx⟩ := hI.allInts.items
    have hn : numsOf its.toArray.toList = is := by rw [show its.toArray.toList = its from rfl, hI.numsOf]
    rw [hx] at ht hn
    rw [nums_intItems] at hn
    rw [Vals.ref1 rv]
    refine PySem.W.ktm_sumG (I.ok.hd hc) ht fun h' tk t' hk => ?_
    refine ⟨.int is.sum, H, I.kept hk, ⟨t', ?_⟩, q.here r rfl⟩
    rw [preSum_eq, List.take_of_length_le (by simp), hn]
theorem cr_allB (hc : X.calm = true) : CallR X (.builtin "all") (rBi X.K Λ TB .all) := by
  intro pins s σ H vs us Q I rv ⟨c, ds, d, r, hd, e, q⟩
  obtain ⟨a, rfl, e0⟩ := one_some e
  replace e := e0
  obtain ⟨v, rfl, hv⟩ := one_of hd
  obtain ⟨xs, e1, e⟩ := Option.bind_eq_some_iff.mp e
  obtain ⟨is, e2, rfl⟩ := Option.map_eq_some_iff.mp e
  obtain ⟨p, ws, rfl, hq, hw⟩ := litems_of r hv e1
  have hi := boolsOf_vals e2 hw
  subst hi
  exact cr_all hc pins s σ H _ us Q I rv ⟨p, is, rfl, hq, q.here r rfl⟩
theorem cr_anyB (hc : X.calm = true) : CallR X (.builtin "any") (rBi X.K Λ TB .any) := by
  intro pins s σ H vs us Q I rv ⟨c, ds, d, r, hd, e, q⟩
  obtain ⟨a, rfl, e0⟩ := one_some e
  replace e := e0
  obtain ⟨v, rfl, hv⟩ := one_of hd
  obtain ⟨xs, e1, e⟩ := Option.bind_eq_some_iff.mp e
  obtain ⟨is, e2, rfl⟩ := Option.map_eq_some_iff.mp e
  obtain ⟨p, ws, rfl, hq, hw⟩ := litems_of r hv e1
  have hi := boolsOf_vals e2 hw
  subst hi
  exact cr_any hc pins s σ H _ us Q I rv ⟨p, is, rfl, hq, q.here r rfl⟩
theorem cr_minB (hc : X.calm = true) (hu : X.A.units + 200 < cLine) : CallR X (.builtin "min") (rBi X.K Λ TB .min) := by
  intro pins s σ H vs us Q I rv ⟨c, ds, d, r, hd, e, q⟩
  rcases oneTwo_some e with ⟨a, rfl, e0⟩ | ⟨a, b, rfl, e0⟩ <;> replace e := e0
  · obtain ⟨v, rfl, hv⟩ := one_of hd
    obtain ⟨xs, e1, e⟩ := Option.bind_eq_some_iff.mp e
    obtain ⟨ys, e2, e⟩ := Option.bind_eq_some_iff.mp e
    split at e
    · cases e
    · rename_i x ys
      split at e
      · rename_i hg
        cases e
        have g := goodL_of hg
        obtain ⟨p, ws, rfl, hq, hw⟩ := items_of r hv e1
        have hw' := Dens.trees e2 hw
        have gd := g.dep
        unfold deepest at gd
        rcases hq with hq | ⟨hq, _⟩
        · obtain ⟨its, rv2, hl, _⟩ := I.list hq
          obtain ⟨as, ra⟩ := reads_dens I r _ ws its g.dat hw' rv2
          rw [Vals.ref1 rv]
          refine PySem.W.min_list_data (I.ok.hd hc) hl.isList (x := x.py) (xs := pyAll ys) (by simpa [pyAll] using ra) (by simpa [pyAll] using g.alk) (by simp only [pyAll] at gd; omega) fun i u h' tk bs hi hr hk => ?_
          rw [← minT_py] at hr
          obtain ⟨v, h1, h2⟩ := pick_den I r g.dat hw' rv2 (by simpa using hi) hk hr (minT_mem x ys)
          exact ⟨v, H, I.kept hk, h1, q.here r h2⟩
        · obtain ⟨its, rv2, hl, _⟩ := I.tuple hq
          obtain ⟨as, ra⟩ := reads_dens I r _ ws its g.dat hw' rv2
          rw [Vals.ref1 rv]
          refine PySem.W.min_tuple_data (I.ok.hd hc) hl (x := x.py) (xs := pyAll ys) (by simpa [pyAll] using ra) (by simpa [pyAll] using g.alk) (by simp only [pyAll] at gd; omega) fun i u h' tk bs hi hr hk => ?_
          rw [← minT_py] at hr
          obtain ⟨v, h1, h2⟩ := pick_den I r g.dat hw' rv2 (by simpa using hi) hk hr (minT_mem x ys)
          exact ⟨v, H, I.kept hk, h1, q.here r h2⟩
      · cases e
  · obtain ⟨v, u, rfl, h1, h2⟩ := two_of hd
    unfold minD2 at e
    split at e
    · rename_i x y
      split at e
      · rename_i hg
        cases e
        have g := goodL_of hg
        have gd := g.dep
        unfold deepest at gd
        obtain ⟨u1, u2, rfl, r1, r2⟩ := vals2 rv
        have hd2 : x.data = true ∧ y.data = true := by simpa [dataAll] using g.dat
        obtain ⟨as, ra⟩ := reads_den I r x v u1 hd2.1 h1 r1
        obtain ⟨bs, rb⟩ := reads_den I r y u u2 hd2.2 h2 r2
        refine min_two_data (I.ok.hd hc) ra rb (by simpa [pyAll] using g.alk) (by simp only [pyAll] at gd; omega) fun h' tk hk => ?_
        have hm : minT x [y] = if ltT y x = true then y else x := rfl
        rw [hm] at q
        unfold ltT at q
        by_cases cc : PySem.W.dataLt y.py x.py = true
        · rw [if_pos cc] at q ⊢
          exact ⟨u, H, I.kept hk, r2, q.here r h2⟩
        · rw [if_neg cc] at q ⊢
          exact ⟨v, H, I.kept hk, r1, q.here r h1⟩
      · cases e
    · cases e
theorem cr_maxB (hc : X.calm = true) (hu : X.A.units + 200 < cLine) : CallR X (.builtin "max") (rBi X.K Λ TB .max) := by
  intro pins s σ H vs us Q I rv ⟨c, ds, d, r, hd, e, q⟩
  rcases oneTwo_some e with ⟨a, rfl, e0⟩ | ⟨a, b, rfl, e0⟩ <;> replace e := e0
  · obtain ⟨v, rfl, hv⟩ := one_of hd
    obtain ⟨xs, e1, e⟩ := Option.bind_eq_some_iff.mp e
    obtain ⟨ys, e2, e⟩ := Option.bind_eq_some_iff.mp e
    split at e
    · cases e
    · rename_i x ys
      split at e
      · rename_i hg
        cases e
        have g := goodL_of hg
        obtain ⟨p, ws, rfl, hq, hw⟩ := items_of r hv e1
        have hw' := Dens.trees e2 hw
        have gd := g.dep
        unfold deepest at gd
        rcases hq with hq | ⟨hq, _⟩
        · obtain ⟨its, rv2, hl, _⟩ := I.list hq
          obtain ⟨as, ra⟩ := reads_dens I r _ ws its g.dat hw' rv2
          rw [Vals.ref1 rv]
          refine PySem.W.max_list_data (I.ok.hd hc) hl.isList (x := x.py) (xs := pyAll ys) (by simpa [pyAll] using ra) (by simpa [pyAll] using g.alk) (by simp only [pyAll] at gd; omega) fun i u h' tk bs hi hr hk => ?_
          rw [← maxT_py] at hr
          obtain ⟨v, h1, h2⟩ := pick_den I r g.dat hw' rv2 (by simpa using hi) hk hr (maxT_mem x ys)
          exact ⟨v, H, I.kept hk, h1, q.here r h2⟩
        · obtain ⟨its, rv2, hl, _⟩ := I.tuple hq
          obtain ⟨as, ra⟩ := reads_dens I r _ ws its g.dat hw' rv2
          rw [Vals.ref1 rv]
          refine PySem.W.max_tuple_data (I.ok.hd hc) hl (x := x.py) (xs := pyAll ys) (by simpa [pyAll] using ra) (by simpa [pyAll] using g.alk) (by simp only [pyAll] at gd; omega) fun i u h' tk bs hi hr hk => ?_
          rw [← maxT_py] at hr
          obtain ⟨v, h1, h2⟩ := pick_den I r g.dat hw' rv2 (by simpa using hi) hk hr (maxT_mem x ys)
          exact ⟨v, H, I.kept hk, h1, q.here r h2⟩
      · cases e
  · obtain ⟨v, u, rfl, h1, h2⟩ := two_of hd
    unfold maxD2 at e
    split at e
    · rename_i x y
      split at e
      · rename_i hg
        cases e
        have g := goodL_of hg
        have gd := g.dep
        unfold deepest at gd
        obtain ⟨u1, u2, rfl, r1, r2⟩ := vals2 rv
        have hd2 : x.data = true ∧ y.data = true := by simpa [dataAll] using g.dat
        obtain ⟨as, ra⟩ := reads_den I r x v u1 hd2.1 h1 r1
        obtain ⟨bs, rb⟩ := reads_den I r y u u2 hd2.2 h2 r2
        refine max_two_data (I.ok.hd hc) ra rb (by simpa [pyAll] using g.alk) (by simp only [pyAll] at gd; omega) fun h' tk hk => ?_
        have hm : maxT x [y] = if ltT x y = true then y else x := rfl
        rw [hm] at q
        unfold ltT at q
        by_cases cc : PySem.W.dataLt x.py y.py = true
        · rw [if_pos cc] at q ⊢
          exact ⟨u, H, I.kept hk, r2, q.here r h2⟩
        · rw [if_neg cc] at q ⊢
          exact ⟨v, H, I.kept hk, r1, q.here r h1⟩
      · cases e
    · cases e
/-- max(xs, default=e) -/
def rMaxK (K : PySem.W.Frag) (Λ : Lay) (TB : List (Addr × Str)) : V → V → Hp → VK → Prop := fun x y H Q => ∃ c a b d, Rel K Λ TB c H ∧ DenD K Λ c a x ∧ DenD K Λ c b y ∧ bikD .max a b c.st = some d ∧ OutD K Λ TB c H d Q
theorem cr_maxK (hc : X.calm = true) (hu : X.A.units + 200 < cLine) {pins : List (Addr × Obj)} {s : Shared} {σ : L2.St} {H : Hp} {x y : V} {v u : Value} {Q : VK} (I : Inv X pins σ H s) (rx : RelV x v) (ry : RelV y u) (h : rMaxK X.K Λ TB x y H Q) :
    wpAny (model X.prog X.w) X.A (call (.builtin "max") [v] [(Str.ofString "default", u)]) (EP X pins σ Q) X.xe s := by
  obtain ⟨c, a, b, d, r, ha, hb, e, q⟩ := h
  obtain ⟨xs, e1, e⟩ := Option.bind_eq_some_iff.mp e
  obtain ⟨ys, e2, e⟩ := Option.bind_eq_some_iff.mp e
  obtain ⟨p, ws, rfl, hq, hw⟩ := litems_of r ha e1
  have hw' := Dens.trees e2 hw
  obtain rfl : v = Value.ref p := rx
  obtain ⟨its, rv2, hl, _⟩ := I.list hq
  split at e
  · cases e
    have e0 : ws = [] := hw'
    subst e0
    cases rv2
    refine PySem.W.max_list_default (I.ok.hd hc) hl.isList (xs := []) (as := []) .nil ⟨by simp, by simp⟩ (by simp [PyData.depthAll]; omega) (fun _ h' tk hk => ⟨y, H, I.kept hk, ry, q.here r hb⟩) fun _ _ _ _ _ _ _ e => by cases e
  · rename_i x ys
    split at e
    · rename_i hg
      cases e
      have g := goodL_of hg
      have gd := g.dep
      unfold deepest at gd
      obtain ⟨as, ra⟩ := reads_dens I r _ ws its g.dat hw' rv2
      refine PySem.W.max_list_default (I.ok.hd hc) hl.isList (xs := x.py :: pyAll ys) (by simpa [pyAll] using ra) (by simpa [pyAll] using g.alk) (by simp only [pyAll] at gd; omega) (fun e => by cases e) fun x' r' i u h' tk bs e hi hr hk => ?_
      cases e
      rw [← maxT_py] at hr
      obtain ⟨v, h1, h2⟩ := pick_den I r g.dat hw' rv2 (by simpa using hi) hk hr (maxT_mem x ys)
      exact ⟨v, H, I.kept hk, h1, q.here r h2⟩
    · cases e
end
end Ice
end

section
set_option Elab.async false
set_option linter.all false
set_option maxRecDepth 100000
set_option maxHeartbeats 4000000
namespace Ice
open PySem PySem.Spec PyProof.Rows PySem.W L2
section
variable {X : Cx} {Λ : Lay} {TB : List (Addr × Str)} {c : Cfg} {H : Hp}
/-! ### sorted -/
theorem each_of {R : Value → T → Prop} : ∀ {us : List Value} {xs : List T}, us.length = xs.length → (∀ (i : Nat) (u : Value) (x : T), us[i]? = some u → xs[i]? = some x → R u x) → PySem.W.EachIs R us xs
  | [], [], _, _ => .nil
  | [], _ :: _, h, _ => by cases h
  | _ :: _, [], h, _ => by cases h
  | u :: us, x :: xs, h, f => .cons (f 0 u x rfl rfl) (each_of (by simpa using h) fun i v y h1 h2 => f (i + 1) v y (by simpa using h1) (by simpa using h2))
theorem of_each {K : PySem.W.Frag} {S : Hp} : ∀ {us : List Value} {xs : List T}, PySem.W.EachIs (fun u x => ∃ v, RelV v u ∧ Den K Λ S x v) us xs → ∃ vs, Vals vs us ∧ Dens K Λ S xs vs
  | _, _, .nil => ⟨[], .nil, rfl⟩
  | _, _, .cons ⟨v, h1, h2⟩ r => by
    obtain ⟨vs, h3, h4⟩ := of_each r
    exact ⟨v :: vs, .cons h1 h3, v, vs, rfl, h2, h4⟩
theorem tup1_py {x : T} (h : x.isTup1 = true) : ∃ a r, x.py = .tuple (a :: r) := by
  cases x with
  | tup xs =>
    cases xs with
    | nil => cases h
    | cons y ys => exact ⟨y.py, pyAll ys, by simp [T.py, pyAll]⟩
  | _ => cases h
theorem notup_py {x : T} (h : x.isTup = false) (hd : x.data = true) : ∀ xs, x.py ≠ .tuple xs := by
  intro xs
  cases x with
  | tup _ => cases h
  | _ => simp_all [T.py, T.data]
theorem depth_mem : ∀ {xs : List T} {x : T}, x ∈ xs → x.py.depth ≤ PyData.depthAll (pyAll xs)
  | y :: ys, x, h => by
    rw [pyAll, PyData.depthAll]
    rcases List.mem_cons.mp h with rfl | h
    · exact Nat.le_max_left _ _
    · exact Nat.le_trans (depth_mem h) (Nat.le_max_right _ _)
theorem cr_sortB (hu : X.A.units + 200 < cLine) : CallR X (.builtin "sorted") (rBi X.K Λ TB .sorted) := by
  intro pins s σ H vs us Q I rv ⟨c, ds, d, r, hd, e, q⟩
  obtain ⟨a, rfl, e0⟩ := one_some e
  replace e := e0
  obtain ⟨v, rfl, hv⟩ := one_of hd
  obtain ⟨xs, e1, e⟩ := Option.bind_eq_some_iff.mp e
  obtain ⟨ys, e2, e⟩ := Option.bind_eq_some_iff.mp e
  split at e
  · rename_i hg
    cases e
    simp only [Bool.and_eq_true] at hg
    obtain ⟨hg, hs⟩ := hg
    have g := goodL_of hg
    have gd := g.dep
    unfold deepest at gd
    obtain ⟨p, ws, rfl, hq, hw⟩ := litems_of r hv e1
    have hw' := Dens.trees e2 hw
    obtain ⟨its, rv2, hl, hz⟩ := I.list hq
    have len : its.length = ys.length := by rw [← rv2.length, ← hw'.length]
    have get : ∀ (i : Nat) (u : Value) (x : T), its[i]? = some u → ys[i]? = some x → ∃ v, RelV v u ∧ Den X.K Λ c.S x v := fun i u x h1 h2 => by
      obtain ⟨v, h3, h4⟩ := hw'.get h2
      obtain ⟨u', h5, h6⟩ := rv2.get h3
      rw [h1] at h5
      cases h5
      exact ⟨v, h6, h4⟩
    have er : PySem.W.EachIs (fun u x => ∃ v, RelV v u ∧ Den X.K Λ c.S x v) its ys := each_of len get
    have er2 : PySem.W.EachIs (fun u x => ∃ as, Reads s.heap u (T.py x) as) its ys := each_of len fun i u x h1 h2 => by
      obtain ⟨v, h3, h4⟩ := get i u x h1 h2
      exact reads_den I r x v u (dataAll_mem g.dat (List.mem_of_getElem? h2)) h4 h3
    rw [Vals.ref1 rv]
    have ealk := g.alk.1
    refine PySem.W.sorted_data (enc := T.py) hl.isList er er2 ?_ ?_ (by rw [← len, ← rv2.length]; exact hz) (fun b hb => ?_) fun out ho he => ?_
    · rw [← pyAll_map]
      exact fun d hd d' hd' => ealk d hd d' hd'
    · unfold sortable at hs
      rcases Bool.or_eq_true_iff.mp hs with hs | hs
      · refine .inl fun d hd => ?_
        obtain ⟨x, hx, rfl⟩ := List.mem_map.mp hd
        exact tup1_py (List.all_eq_true.mp hs x hx)
      · refine .inr fun d hd => ?_
        obtain ⟨x, hx, rfl⟩ := List.mem_map.mp hd
        have q := List.all_eq_true.mp hs x hx
        simp only [Bool.and_eq_true, Bool.not_eq_true'] at q
        exact ⟨py_none (dataAll_mem g.dat hx) q.1, notup_py q.2 (dataAll_mem g.dat hx)⟩
    · have := depth_mem hb
      omega
    · obtain ⟨ep, he'⟩ := PyProof.Rows.sortedAll_at s.heap its out.toArray
      obtain ⟨zs, h1, h2⟩ := of_each he
      have hlen : zs.length ≤ sizeLine := by rw [h1.length, ho, ← len, ← rv2.length]; exact hz
      have fr : H (s.heap.objs.size + 1) = none := I.hok.fresh (Nat.le_succ _)
      exact ⟨.ref _, upd H (s.heap.objs.size + 1) (.lst zs), I.laid (t' := s.toks) (fun _ _ => PyProof.Rows.sortedAll_old) (Nat.le_succ _) ⟨hlen, out, ep, h1, he'⟩, rfl, q.out.lst r h2 fr⟩
  · cases e
/-! ### isinstance -/
def tyVal (Λ : Lay) : Ty → Value
  | .int => .type "int" | .bool => .type "bool" | .str => .type "str" | .list => .type "list" | .tuple => .type "tuple" | .dict => .type "dict" | .cls c => .ref (Λ.cA c)
def tyV' (Λ : Lay) : Ty → V
  | .int => .ty "int" | .bool => .ty "bool" | .str => .ty "str" | .list => .ty "list" | .tuple => .ty "tuple" | .dict => .ty "dict" | .cls c => .ref (Λ.cA c)
def tagVal (Λ : Lay) : Tag → Value
  | .non => .type "NoneType" | .int => .type "int" | .bool => .type "bool" | .str => .type "str" | .list => .type "list" | .tuple => .type "tuple" | .dict => .type "dict" | .cls c => .ref (Λ.cA c)
/-- a class whose instances isinstance may see -/
structure ClsI (K : PySem.W.Frag) (C : Addr) : Prop where
  cl : Cls K C
  ha : PySem.W.findIn K (.ref C) "__class__" = some (some (.builtin "object.__class__"))
  hn : PySem.W.specialIn K (.builtin "object.__class__") "__get__" = some (some (.builtin "getset_descriptor.__get__"))
  htk : PySem.W.takesIn K (.builtin "object.__class__") = some true
  hm : PySem.W.mroIn K C (.type "object") = some true
def KitOk (K : PySem.W.Frag) (Λ : Lay) (cs : List String) : Prop :=
  (∀ c ∈ cs, ClsI K (Λ.cA c)) ∧ ∀ (g : Tag) (y : Ty), (∀ c, g = .cls c → c ∈ cs) → (∀ c, y = .cls c → c ∈ cs) → PySem.W.kitOne K (tagVal Λ g) (tyVal Λ y) = some (tagIs g y)
/-- classes of instances that are tracked lie in cs -/
theorem face_ty {cs : List String} {d : D} {x : V} {g : Tag} (k : KitOk X.K Λ cs) (r : Rel X.K Λ TB c H) (hd : DenD X.K Λ c d x) (e : faceD c.st d = some g) (hc : ∀ n, g = .cls n → n ∈ cs) : TyX X.K H x (tagVal Λ g) := by
  cases d with
  | t t =>
    cases t with
    | non => cases e; cases hd; exact .base .non
    | bl b => cases e; cases hd; exact .base (.bl b)
    | int i => cases e; cases hd; exact .base (.int i)
    | str z => cases e; cases hd; exact .base (.str z)
    | tup xs =>
      cases e
      have h : Den X.K Λ c.S (.tup xs) x := hd
      simp only [Den] at h
      obtain ⟨a, vs, rfl, h1, _⟩ := h
      exact .base (.tup (r.sub _ _ h1))
    | lst xs =>
      cases e
      have h : Den X.K Λ c.S (.lst xs) x := hd
      simp only [Den] at h
      obtain ⟨a, vs, rfl, h1, _⟩ := h
      exact .base (.lst (r.sub _ _ h1))
    | ins n fs =>
      cases e
      have h : Den X.K Λ c.S (.ins n fs) x := hd
      simp only [Den] at h
      obtain ⟨a, dx, fv, rfl, h1, _⟩ := h
      have ci := k.1 n (hc n rfl)
      exact .base (.ins (r.sub _ _ h1) ci.cl ci.ha ci.hn ci.htk ci.hm)
    | dct kvs =>
      cases e
      have h : Den X.K Λ c.S (.dct kvs) x := hd
      simp only [Den] at h
      obtain ⟨a, vs, rfl, h1, _⟩ := h
      exact .base (.dK (r.sub _ _ h1))
    | wt xs =>
      cases e
      obtain ⟨a, vs, rfl, h1, _⟩ := Dens.wt (show Den X.K Λ c.S (.wt xs) x from hd)
      rcases SqT.mono r.sub h1 with (h1 | ⟨o, h1⟩) | ⟨o, its, n, h1, h2, _⟩
      · exact .base (.tup h1)
      · exact .fTuple h1
      · exact .kTuple h1 h2
    | fn _ => cases e
    | scr _ => cases e
  | h j =>
    obtain ⟨_, rfl⟩ := hd
    simp only [faceD] at e
    split at e
    · rename_i xs hx
      cases e
      obtain ⟨vs, h1, _⟩ := (r.obj j _ hx (by intro z; cases z)).1
      exact .base (.lst h1)
    · rename_i xs hx
      cases e
      obtain ⟨vs, h1, _⟩ := (r.obj j _ hx (by intro z; cases z)).1
      exact .base (.dK h1)
    · rename_i xs hx
      cases e
      obtain ⟨vs, h1, _⟩ := (r.obj j _ hx (by intro z; cases z)).1
      exact .base (.dT h1)
    · rename_i n fs hx
      cases e
      obtain ⟨dx, fv, h1, _⟩ := (r.obj j _ hx (by intro z; cases z)).1
      have ci := k.1 n (hc n rfl)
      exact .base (.ins h1 ci.cl ci.ha ci.hn ci.htk ci.hm)
    · cases e
theorem tyV_cls (Λ : Lay) (y : Ty) : ClsV (tyV' Λ y) (tyVal Λ y) := by cases y <;> first | exact .ty _ | exact .own _
theorem kitAny_of {cs : List String} {g : Tag} (k : KitOk X.K Λ cs) (hg : ∀ n, g = .cls n → n ∈ cs) : ∀ (ys : List Ty), (∀ y ∈ ys, ∀ n, y = .cls n → n ∈ cs) → PySem.W.kitAny X.K (tagVal Λ g) (ys.map (tyVal Λ)) = some (ys.any (tagIs g))
  | [], _ => rfl
  | y :: ys, hy => by
    have h1 := k.2 g y hg (hy y List.mem_cons_self)
    have h2 := kitAny_of k hg ys fun z hz => hy z (List.mem_cons_of_mem _ hz)
    rw [List.map_cons]
    refine kitAny_cons h1 (fun e => ?_) fun e => ?_
    · rw [h2, List.any_cons, e, Bool.false_or]
    · rw [List.any_cons, e, Bool.true_or]
/-! ### fields -/
theorem DenFs.lookup {K : PySem.W.Frag} {S : Hp} {f : String} : ∀ {fs : List (String × T)} {fv : List (Str × V)}, DenFs K Λ S fs fv → match fs.lookup f with
    | some t => ∃ v, fv.lookup (Λ.fN f) = some v ∧ Den K Λ S t v
    | none => fv.lookup (Λ.fN f) = none
  | [], fv, h => by
    cases (show fv = [] from h)
    exact rfl
  | (g, t) :: fs, fv, h => by
    obtain ⟨v, r, rfl, h1, h2⟩ := h
    have ih := DenFs.lookup (f := f) h2
    by_cases e : f = g
    · subst e
      rw [List.lookup_cons_self]
      exact ⟨v, List.lookup_cons_self, h1⟩
    · have e1 : (f == g) = false := beq_eq_false_iff_ne.mpr e
      have e2 : (Λ.fN f == Λ.fN g) = false := beq_eq_false_iff_ne.mpr fun z => e (Λ.inj _ _ z)
      rw [List.lookup_cons, e1]
      simp only
      have e3 : ((Λ.fN g, v) :: r).lookup (Λ.fN f) = r.lookup (Λ.fN f) := by rw [List.lookup_cons, e2]
      cases q : fs.lookup f with
      | none => rw [q] at ih; exact e3.trans ih
      | some t' => rw [q] at ih; obtain ⟨u, i1, i2⟩ := ih; exact ⟨u, e3.trans i1, i2⟩
theorem DenFD.lookup {K : PySem.W.Frag} {c : Cfg} {f : String} : ∀ {fs : List (String × D)} {fv : List (Str × V)}, DenFD K Λ c fs fv → match fs.lookup f with
    | some t => ∃ v, fv.lookup (Λ.fN f) = some v ∧ DenD K Λ c t v
    | none => fv.lookup (Λ.fN f) = none
  | [], fv, h => by
    cases (show fv = [] from h)
    exact rfl
  | (g, t) :: fs, fv, h => by
    obtain ⟨v, r, rfl, h1, h2⟩ := h
    have ih := DenFD.lookup (f := f) h2
    by_cases e : f = g
    · subst e
      rw [List.lookup_cons_self]
      exact ⟨v, List.lookup_cons_self, h1⟩
    · have e1 : (f == g) = false := beq_eq_false_iff_ne.mpr e
      have e2 : (Λ.fN f == Λ.fN g) = false := beq_eq_false_iff_ne.mpr fun z => e (Λ.inj _ _ z)
      rw [List.lookup_cons, e1]
      simp only
      have e3 : ((Λ.fN g, v) :: r).lookup (Λ.fN f) = r.lookup (Λ.fN f) := by rw [List.lookup_cons, e2]
      cases q : fs.lookup f with
      | none => rw [q] at ih; exact e3.trans ih
      | some t' => rw [q] at ih; obtain ⟨u, i1, i2⟩ := ih; exact ⟨u, e3.trans i1, i2⟩
theorem DenFs.keys {K : PySem.W.Frag} {S : Hp} : ∀ {fs : List (String × T)} {fv : List (Str × V)}, DenFs K Λ S fs fv → fv.length = fs.length
  | [], fv, h => by cases (show fv = [] from h); rfl
  | (g, t) :: fs, fv, h => by
    obtain ⟨v, r, rfl, _, h2⟩ := h
    rw [List.length_cons, List.length_cons, DenFs.keys h2]
theorem DenFD.keys {K : PySem.W.Frag} {c : Cfg} : ∀ {fs : List (String × D)} {fv : List (Str × V)}, DenFD K Λ c fs fv → fv.length = fs.length
  | [], fv, h => by cases (show fv = [] from h); rfl
  | (g, t) :: fs, fv, h => by
    obtain ⟨v, r, rfl, _, h2⟩ := h
    rw [List.length_cons, List.length_cons, DenFD.keys h2]
theorem DenFD.put {K : PySem.W.Frag} {c : Cfg} {f : String} {d : D} {v : V} (hd : DenD K Λ c d v) : ∀ {fs : List (String × D)} {fv : List (Str × V)}, DenFD K Λ c fs fv → DenFD K Λ c (Ice.putF f d fs) (L2.putF (Λ.fN f) v fv)
  | [], fv, h => by
    cases (show fv = [] from h)
    exact ⟨v, [], rfl, hd, rfl⟩
  | (g, t) :: fs, fv, h => by
    obtain ⟨u, r, rfl, h1, h2⟩ := h
    by_cases e : g = f
    · subst e
      rw [Ice.putF, if_pos rfl, L2.putF, if_pos rfl]
      exact ⟨v, r, rfl, hd, h2⟩
    · rw [Ice.putF, if_neg e, L2.putF, if_neg fun z => e (Λ.inj _ _ z)]
      exact ⟨u, _, rfl, h1, DenFD.put hd h2⟩
/-- an instance's field -/
theorem att_den {o d : D} {x : V} {f : String} (r : Rel X.K Λ TB c H) (ho : DenD X.K Λ c o x) (e : attD c.st o f = some d) : ∃ a C dx fv v, x = .ref a ∧ clsD c.st o = some C ∧ H a = some (.ins (Λ.cA C) dx fv) ∧ fv.lookup (Λ.fN f) = some v ∧ DenD X.K Λ c d v := by
  cases o with
  | t t =>
    cases t with
    | ins n fs =>
      obtain ⟨t, e1, rfl⟩ := Option.map_eq_some_iff.mp (show (fs.lookup f).map D.t = some d from e)
      have h : Den X.K Λ c.S (.ins n fs) x := ho
      simp only [Den] at h
      obtain ⟨a, dx, fv, rfl, h1, h2⟩ := h
      have q := DenFs.lookup (f := f) h2
      rw [e1] at q
      obtain ⟨v, q1, q2⟩ := q
      exact ⟨a, n, dx, fv, v, rfl, rfl, r.sub _ _ h1, q1, q2⟩
    | _ => cases e
  | h j =>
    obtain ⟨_, rfl⟩ := ho
    simp only [attD] at e
    split at e
    · rename_i n fs hx
      obtain ⟨dx, fv, h1, h2⟩ := (r.obj j _ hx (by intro z; cases z)).1
      have q := DenFD.lookup (f := f) h2
      rw [e] at q
      obtain ⟨v, q1, q2⟩ := q
      exact ⟨_, n, dx, fv, v, rfl, by simp [clsD, hx], h1, q1, q2⟩
    · cases e
end
end Ice
end

section
set_option Elab.async false
set_option linter.all false
set_option maxRecDepth 100000
set_option maxHeartbeats 4000000
namespace Ice
open PySem PySem.Spec PyProof.Rows PySem.W L2

/-- what the interpreter walks with -/
structure Gm where
  Λ : Lay
  TB : List (Addr × Str)
  P : Tab
  cf : CallF
section
variable (K : PySem.W.Frag) (Γ : Gm) (E : XK)
abbrev WpG {α β : Type} (r : R α) (c : Cfg) (H : Hp) (D : Cfg → α → β → Prop) (Q : β → Hp → Prop) : Prop := Wp K Γ.Λ Γ.TB r c H D Q E
structure At (c : Cfg) (ρ : Env) (σ : L2.St) (H : Hp) : Prop where
  rel : Rel K Γ.Λ Γ.TB c H
  env : EnvR K Γ.Λ c ρ σ
def rE (e : Ex) : TE := fun σ H Q => ∃ c ρ, At K Γ c ρ σ H ∧ WpG K Γ E (evalE Γ.P Γ.cf e ρ c.st) c H (DenD K Γ.Λ) Q
def rA (es : Exs) : TA := fun σ H Q => ∃ c ρ, At K Γ c ρ σ H ∧ WpG K Γ E (evalEs Γ.P Γ.cf es ρ c.st) c H (DensD K Γ.Λ) Q
def dEq {α : Type} : Cfg → α → α → Prop := fun _ a b => a = b
def rT (e : Ex) : TT := fun σ H Q => ∃ c ρ, At K Γ c ρ σ H ∧ WpG K Γ E ((evalE Γ.P Γ.cf e ρ c.st).bind fun x st => ofOpt st (truth st x)) c H dEq Q
def rO (o : Ox) : TO := fun σ H Q => ∃ c ρ, At K Γ c ρ σ H ∧ WpG K Γ E (evalO Γ.P Γ.cf o ρ c.st) c H dEq Q
end
section
variable {K : PySem.W.Frag} {Λ : Lay} {TB : List (Addr × Str)} {Γ : Gm} {E : XK} {c c1 : Cfg} {H H1 : Hp} {ρ : Env} {σ : L2.St}
theorem Wp.imp {α β : Type} {r : R α} {D : Cfg → α → β → Prop} {Q Q' : β → Hp → Prop} (h : Wp K Λ TB r c H D Q E) (hq : ∀ v H', Q v H' → Q' v H') : Wp K Λ TB r c H D Q' E := by
  cases r with
  | ok x st => exact fun c' H' v b e d => hq v H' (h c' H' v b e d)
  | ex x st => exact h
  | no => exact h
theorem At.move (a : At K Γ c ρ σ H) (b : After K Γ.Λ Γ.TB c H c1 H1) : At K Γ c1 ρ σ H1 := ⟨b.rel, EnvR.mono b.ext a.env⟩
/-- an expression first -/
theorem rE.step {α' β' : Type} {e : Ex} {f : D → Store → R α'} {D' : Cfg → α' → β' → Prop} {Q : β' → Hp → Prop} (a : At K Γ c ρ σ H) (h : WpG K Γ E ((evalE Γ.P Γ.cf e ρ c.st).bind f) c H D' Q) :
    rE K Γ E e σ H fun x H1 => ∃ c1 d, After K Γ.Λ Γ.TB c H c1 H1 ∧ At K Γ c1 ρ σ H1 ∧ DenD K Γ.Λ c1 d x ∧ WpG K Γ E (f d c1.st) c1 H1 D' Q :=
  ⟨c, ρ, a, (Wp.bindI (D := DenD K Γ.Λ) h).imp fun v H' ⟨c1, d, b, hd, hw⟩ => ⟨c1, d, b, a.move b, hd, hw⟩⟩
theorem rA.step {α' β' : Type} {e : Exs} {f : List D → Store → R α'} {D' : Cfg → α' → β' → Prop} {Q : β' → Hp → Prop} (a : At K Γ c ρ σ H) (h : WpG K Γ E ((evalEs Γ.P Γ.cf e ρ c.st).bind f) c H D' Q) :
    rA K Γ E e σ H fun x H1 => ∃ c1 d, After K Γ.Λ Γ.TB c H c1 H1 ∧ At K Γ c1 ρ σ H1 ∧ DensD K Γ.Λ c1 d x ∧ WpG K Γ E (f d c1.st) c1 H1 D' Q :=
  ⟨c, ρ, a, (Wp.bindI (D := DensD K Γ.Λ) h).imp fun v H' ⟨c1, d, b, hd, hw⟩ => ⟨c1, d, b, a.move b, hd, hw⟩⟩
theorem rO.step {α' β' : Type} {e : Ox} {f : Option Int → Store → R α'} {D' : Cfg → α' → β' → Prop} {Q : β' → Hp → Prop} (a : At K Γ c ρ σ H) (h : WpG K Γ E ((evalO Γ.P Γ.cf e ρ c.st).bind f) c H D' Q) :
    rO K Γ E e σ H fun x H1 => ∃ c1, After K Γ.Λ Γ.TB c H c1 H1 ∧ At K Γ c1 ρ σ H1 ∧ WpG K Γ E (f x c1.st) c1 H1 D' Q :=
  ⟨c, ρ, a, (Wp.bindI (D := dEq) h).imp fun v H' ⟨c1, d, b, hd, hw⟩ => by cases hd; exact ⟨c1, b, a.move b, hw⟩⟩
theorem rT.step {α' β' : Type} {e : Ex} {f : D → Store → R α'} {g : Bool → Store → R α'} {D' : Cfg → α' → β' → Prop} {Q : β' → Hp → Prop} (a : At K Γ c ρ σ H) (h : WpG K Γ E ((evalE Γ.P Γ.cf e ρ c.st).bind f) c H D' Q)
    (hf : ∀ (d : D) (st : Store), f d st ≠ .no → ∃ b, truth st d = some b ∧ f d st = g b st) :
    rT K Γ E e σ H fun b H1 => ∃ c1, After K Γ.Λ Γ.TB c H c1 H1 ∧ At K Γ c1 ρ σ H1 ∧ WpG K Γ E (g b c1.st) c1 H1 D' Q := by
  refine ⟨c, ρ, a, ?_⟩
  cases q : evalE Γ.P Γ.cf e ρ c.st with
  | ok d st =>
    rw [q] at h
    have h' : WpG K Γ E (f d st) c H D' Q := h
    have hn : f d st ≠ .no := fun z => by rw [z] at h'; exact h'
    obtain ⟨b, e1, e2⟩ := hf d st hn
    show Wp K Γ.Λ Γ.TB (ofOpt st (truth st d)) c H dEq _ E
    rw [e1]
    intro c' H' v b' es hd
    cases hd
    refine ⟨c', b', a.move b', ?_⟩
    rw [es, ← e2]
    exact Wp.move h' b'
  | ex x st =>
    rw [q] at h
    exact h
  | no =>
    rw [q] at h
    exact h
theorem _root_.L2.PE.imp {X : Cx} {e : Expr} {t t' : TE} (h : PE X e t) (i : ∀ σ H Q, t' σ H Q → t σ H Q) : PE X e t' := ⟨fun pins s σ H Q I q => h.run pins s σ H Q I (i σ H Q q)⟩
theorem _root_.L2.PT.imp {X : Cx} {e : Expr} {t t' : TT} (h : PT X e t) (i : ∀ σ H Q, t' σ H Q → t σ H Q) : PT X e t' := ⟨fun pins s σ H Q I q => h.run pins s σ H Q I (i σ H Q q)⟩
theorem _root_.L2.PW.imp {X : Cx} {e : Expr} {t t' : TT} (h : PW X e t) (i : ∀ σ H Q, t' σ H Q → t σ H Q) : PW X e t' := ⟨fun w pins s σ H Q I q => h.run w pins s σ H Q I (i σ H Q q)⟩
theorem _root_.L2.PA.imp {X : Cx} {e : List Expr} {t t' : TA} (h : PA X e t) (i : ∀ σ H Q, t' σ H Q → t σ H Q) : PA X e t' := ⟨fun p pins s σ H Q I q => h.run p pins s σ H Q I (i σ H Q q)⟩
theorem _root_.L2.PS.imp {X : Cx} {e : Stmt} {t t' : TS} (h : PS X e t) (i : ∀ D σ H, t' D σ H → t D σ H) : PS X e t' := ⟨fun pins s σ H Q I q => h.run pins s σ H Q I (i Q σ H q)⟩
theorem _root_.L2.PSs.imp {X : Cx} {e : List Stmt} {t t' : TS} (h : PSs X e t) (i : ∀ D σ H, t' D σ H → t D σ H) : PSs X e t' := ⟨fun pins s σ H Q I q => h.run pins s σ H Q I (i Q σ H q)⟩
end

/-! ### the texts' shapes -/
def notSlice : Expr → Bool
  | .Slice .. => false
  | _ => true
theorem plain_ix {b : Expr} (h : notSlice b = true) : PlainIx b := by
  cases b <;> first | (intro o i; rfl) | cases h
def notStar : Expr → Bool
  | .Starred .. => false
  | _ => true
theorem star_one {e : Expr} (h : notStar e = true) (es : List Expr) (env : PySem.Env) : starEach (e :: es) env = (false, eval e env) :: starEach es env := by
  cases e <;> first | rfl | cases h
def noStars (es : List Expr) : Bool := es.all notStar
theorem star_any {pos : Pos} {env : PySem.Env} : ∀ {es : List Expr}, noStars es = true → (backTo pos (starEach es env)).any (·.1) = false
  | [], _ => rfl
  | e :: es, h => by
    have h' : notStar e = true ∧ noStars es = true := by simpa [noStars] using h
    rw [star_one h'.1]
    simpa [backTo] using star_any (pos := pos) (env := env) h'.2
def notSet : Expr → Bool
  | .Set .. => false
  | _ => true
theorem folded_ok {e : Expr} (h : notSet e = true) (env : PySem.Env) (x : Value) : foldedSetIterable e env x = pure x := by
  cases e <;> first | rfl | cases h
theorem behind_ok {op : CmpOp} {e : Expr} (h : notSet e = true) : behindInMarks op e = false := by
  cases e <;> first | rfl | cases h
def notCall : Expr → Bool
  | .Call f as ks _ => match f, as, ks with
    | .Name _ _, [], [] => false
    | _, _, _ => true
  | _ => true
theorem base_ok {e : Expr} (h : notCall e = true) (a : Str) (env : PySem.Env) (w : Sem Value) : attributeBase e a env w = w := by
  cases e with
  | Call f as ks p =>
    cases f with
    | Name x q =>
      cases as with
      | nil =>
        cases ks with
        | nil => cases h
        | cons _ _ => rfl
      | cons _ _ => rfl
    | _ => rfl
  | _ => rfl
def notComp : Expr → Bool
  | .ListComp .. => false
  | .SetComp .. => false
  | .DictComp .. => false
  | _ => true
theorem swaps_ok {e : Expr} (h : notComp e = true) (t : Option Expr) (l : Nat) (env : PySem.Env) : swapsWith e t l env = pure false := by
  cases e <;> first | rfl | cases h
def testPlain : Expr → Bool
  | .UnaryOp op _ _ => match op with
    | .Not => false
    | _ => true
  | .BoolOp .. => false
  | .IfExp .. => false
  | .Compare .. => false
  | _ => true
theorem test_ok {e : Expr} (h : testPlain e = true) (env : PySem.Env) (whole : Sem Value) : isTrue e env whole = (do let v ← whole; standAt e.pos; holding [v] (truthy v)) := by
  cases e with
  | UnaryOp op _ _ => cases op <;> first | rfl | cases h
  | BoolOp _ _ _ => cases h
  | IfExp _ _ _ _ => cases h
  | Compare _ _ _ _ => cases h
  | _ => rfl
def glB (sc : Scope) (x : Str) : Bool := decide (sc.names.lookup x = some .globalImplicit) && !(x == ("__debug__" : Str))
def visB (sc : Scope) (x : Str) : Bool := match sc.names.lookup x with
  | some .local => true
  | some .cell => true
  | some .free => true
  | _ => false
theorem visB_ok {sc : Scope} {x : Str} (h : visB sc x = true) : Vis sc x := by
  unfold visB at h
  split at h
  · exact .inl ‹_›
  · exact .inr (.inl ‹_›)
  · exact .inr (.inr ‹_›)
  · cases h
def nameB (N : List Str) (sc : Scope) (i : Nat) (x : Str) : Bool := decide (N[i]? = some x) && visB sc x && !(x == ("__debug__" : Str)) && !(x == ("__classdict__" : Str))
structure NameOk (N : List Str) (sc : Scope) (i : Nat) (x : Str) : Prop where
  at_ : N[i]? = some x
  vis : Vis sc x
  hd : (x == ("__debug__" : Str)) = false
  hcd : (x == ("__classdict__" : Str)) = false
theorem nameB_ok {N : List Str} {sc : Scope} {i : Nat} {x : Str} (h : nameB N sc i x = true) : NameOk N sc i x := by
  unfold nameB at h
  simp only [Bool.and_eq_true, decide_eq_true_eq, Bool.not_eq_true'] at h
  exact ⟨h.1.1.1, visB_ok h.1.1.2, h.1.2, h.2⟩
structure GlOk (sc : Scope) (x : Str) : Prop where
  gl : sc.names.lookup x = some .globalImplicit
  hd : (x == ("__debug__" : Str)) = false
theorem glB_ok {sc : Scope} {x : Str} (h : glB sc x = true) : GlOk sc x := by
  unfold glB at h
  simp only [Bool.and_eq_true, decide_eq_true_eq, Bool.not_eq_true'] at h
  exact ⟨h.1, h.2⟩

/-! ### the context -/
def biName : Bi → Str
  | .len => "len" | .int => "int" | .list => "list" | .tuple => "tuple" | .sum => "sum" | .min => "min" | .max => "max" | .sorted => "sorted" | .all => "all" | .any => "any" | .repr => "repr" | .str => "str" | .dict => "dict"
def tyName : Ty → Str
  | .int => "int" | .bool => "bool" | .str => "str" | .list => "list" | .tuple => "tuple" | .dict => "dict" | .cls c => nm c
/-- the module's names that are not the program's -/
def bltNames : List Str := ["len", "int", "list", "tuple", "sum", "min", "max", "sorted", "all", "any", "repr", "str", "dict", "bool", "isinstance", "range", "enumerate", "zip"]
def lev (n : Nat) : Nat := 5 * n
/-- the promise of a def at depth n -/
def spI (K : PySem.W.Frag) (Γ : Gm) (f : String) (np : Nat) : Sp := fun vs H Q E => ∃ c ds, Rel K Γ.Λ Γ.TB c H ∧ DensD K Γ.Λ c ds vs ∧ ds.length = np ∧ WpG K Γ E (Γ.cf f ds c.st) c H (DenD K Γ.Λ) Q
/-- a def of the program, as it may be called -/
structure FnL (P : Program) (w : World) (K : PySem.W.Frag) (mg : Str → Option Value) (base : Heap) (Γ : Gm) (k : Nat) (f : String) (F : Fn) : Prop where
  ok : ∃ (fd : FuncData) (ps : List Str), ps.length = F.np ∧ FnOk P w K mg base (CX P w) k (Γ.Λ.fA f) fd ps (spI K Γ f F.np) ∧
    ∀ j, j ≤ F.dfl.length → ∃ (ds : List Value) (dvs : List V), Binds K fd ps ds ∧ Vals dvs ds ∧ ∀ c : Cfg, DensD K Γ.Λ c ((F.dfl.drop (F.dfl.length - j)).map .t) dvs
  keep : PySem.W.keepIn K (.ref (Γ.Λ.fA f)) = true
structure Lnk (P : Program) (w : World) (K : PySem.W.Frag) (mg : Str → Option Value) (base : Heap) (Γ : Gm) (n : Nat) : Prop where
  fn : ∀ f F, Γ.P.fn f = some F → FnL P w K mg base Γ (lev n) f F
  glf : ∀ f, (Γ.P.fn f).isSome = true → dotted f = false → mg (nm f) = some (.ref (Γ.Λ.fA f))
  con : ∀ x v, Γ.P.con x = some v → ∃ u w, mg (nm x) = some u ∧ RelV w u ∧ ∀ S : Hp, Den K Γ.Λ S v w
  blt : ∀ x ∈ bltNames, mg x = none
  cs : ∃ cs : List String, KitOk K Γ.Λ cs ∧ ∀ c C, Γ.P.cls c = some C → c ∈ cs
  clg : ∀ c C, Γ.P.cls c = some C → mg (nm c) = some (.ref (Γ.Λ.cA c))
  fld : ∀ c C, Γ.P.cls c = some C → ∀ f ∈ C.flds, NoAttr K (Γ.Λ.cA c) (Γ.Λ.fN f)
  mth : ∀ c C, Γ.P.cls c = some C → ∀ m ∈ C.meths, Meth K (Γ.Λ.cA c) (Γ.Λ.fN m) (Γ.Λ.fA (c ++ "." ++ m))
structure Good (Γ : Gm) (n : Nat) (N : List Str) (sc : Scope) (lm : Bool) (X : Cx) (E : XK) : Prop where
  hN : X.N = N
  nd : N.Nodup
  hsc : X.env.scope = sc
  calm : X.calm = true
  room : Room (lev n + if lm then 2 else 4) X.A
  tk : Takes X (fun cls d _ H => E cls d H)
  po : PassesOwn (model X.prog X.w) X.A X.env X.xe
  lnk : Lnk X.prog X.w X.K X.mg X.base Γ n
end Ice
end

section
set_option Elab.async false
set_option linter.all false
set_option maxRecDepth 100000
set_option maxHeartbeats 4000000
namespace Ice
open PySem PySem.Spec PyProof.Rows PySem.W L2

structure SE (Γ : Gm) (E : XK) (X : Cx) (e : Ex) (e' : Expr) : Prop where
  pe : PE X e' (rE X.K Γ E e)
  pt : PT X e' (rT X.K Γ E e)
  pw : ∀ op vs pos, e' = .BoolOp op vs pos → PW X e' (rT X.K Γ E e)
section
variable {Γ : Gm} {E : XK} {X : Cx} {n : Nat} {N : List Str} {sc : Scope} {lm : Bool} {pos : Pos}
theorem pt_of {e : Ex} {e' : Expr} (h : PE X e' (rE X.K Γ E e)) (hp : ∀ whole, isTrue e' X.env whole = (do let v ← whole; standAt e'.pos; holding [v] (truthy v))) : PT X e' (rT X.K Γ E e) :=
  (pt_truth h hp).imp fun σ H Q ⟨c, ρ, a, w⟩ => by
    obtain ⟨c0, ρ0, a0, w0⟩ := rE.step a w
    refine ⟨c0, ρ0, a0, w0.imp fun v H' ⟨c1, d, b, a1, hd, hw⟩ => ?_⟩
    obtain ⟨k, ek, hw⟩ := Wp.opt1 hw
    exact ⟨k, truth_ok a1.rel hd ek, Wp.ok (D := dEq) hw a1.rel rfl⟩
theorem SE.of {e : Ex} {e' : Expr} (h : PE X e' (rE X.K Γ E e)) (hp : testPlain e' = true) : SE Γ E X e e' :=
  ⟨h, pt_of h (test_ok hp X.env), fun op vs pos z => by subst z; cases hp⟩
/-! ### names, constants -/
theorem snd_var {i : Nat} {x : Str} (hn : NameOk X.N X.env.scope i x) : SE Γ E X (.var i) (.Name x pos) := by
  refine SE.of ((pe_var hn.at_ hn.vis hn.hd hn.hcd).imp fun σ H Q ⟨c, ρ, a, w⟩ => ?_) rfl
  unfold evalE at w
  split at w
  · rename_i d hd
    obtain ⟨v, h1, h2⟩ := a.env.2 i d hd
    exact ⟨v, h1, Wp.ok w a.rel h2⟩
  · exact w.elim
theorem snd_lit {v : V} {t : T} {e' : Expr} (hp : testPlain e' = true) (h : PE X e' (tC v)) (hd : ∀ S, Den X.K Γ.Λ S t v) : SE Γ E X (.lit t) e' := by
  refine SE.of (h.imp fun σ H Q ⟨c, ρ, a, w⟩ => ?_) hp
  unfold evalE at w
  exact Wp.ok w a.rel (hd c.S)
def constB : T → Const → Bool
  | .non, .none => true
  | .bl b, .bool c => b == c
  | .int i, .int j => decide (i = j)
  | .str x, .str y => decide (x = y)
  | _, _ => false
theorem snd_const {t : T} {k : Const} {j : Nat} (h : constB t k = true) : SE Γ E X (.lit t) (.Constant k j pos) := by
  unfold constB at h
  split at h
  · exact snd_lit (v := .non) rfl pe_non fun _ => rfl
  · rename_i b c
    obtain rfl : b = c := by simpa using h
    exact snd_lit (v := .bl b) rfl pe_bl fun _ => rfl
  · rename_i a b
    have h' : a = b := of_decide_eq_true h
    subst h'
    exact snd_lit (v := .int _) rfl pe_int fun _ => rfl
  · rename_i a b
    have h' : a = b := of_decide_eq_true h
    subst h'
    exact snd_lit (v := .str _) rfl pe_str fun _ => rfl
  · cases h
theorem snd_glb {x : String} (G : Good Γ n N sc lm X E) (hg : GlOk X.env.scope (nm x)) : SE Γ E X (.glb x) (.Name (nm x) pos) := by
  refine SE.of ?_ rfl
  cases q : Γ.P.con x with
  | none =>
    refine ⟨fun pins s σ H Q I ⟨c, ρ, a, w⟩ => ?_⟩
    unfold evalE at w
    rw [q] at w
    exact w.elim
  | some v =>
    obtain ⟨u, w, h1, h2, h3⟩ := G.lnk.con x v q
    refine (pe_glob hg.gl h1 h2 hg.hd).imp fun σ H Q ⟨c, ρ, a, w⟩ => ?_
    unfold evalE at w
    rw [q] at w
    exact Wp.ok w a.rel (h3 c.S)
/-! ### operators -/
theorem snd_bin {o : BOp} {a b : Ex} {a' b' : Expr} (ha : SE Γ E X a a') (hb : SE Γ E X b b') : SE Γ E X (.bin o a b) (.BinOp a' (opB o) b' pos) := by
  refine SE.of ((pe_op (opBin (Λ := Γ.Λ) (TB := Γ.TB) o) ha.pe hb.pe).imp fun σ H Q ⟨c, ρ, a, w⟩ => ?_) rfl
  unfold evalE at w
  obtain ⟨c0, ρ0, a0, w0⟩ := rE.step a w
  refine ⟨c0, ρ0, a0, w0.imp fun x H1 ⟨c1, d1, b1, a1, hd1, w1⟩ => ?_⟩
  obtain ⟨c0, ρ0, a0, w0⟩ := rE.step a1 w1
  refine ⟨c0, ρ0, a0, w0.imp fun y H2 ⟨c2, d2, b2, a2, hd2, w2⟩ => ?_⟩
  obtain ⟨z, ez, w3⟩ := Wp.opt w2
  exact ⟨c2, d1, d2, z, a2.rel, DenD.mono b2.ext d1 x hd1, hd2, ez, w3.out⟩
theorem snd_neg {a : Ex} {a' : Expr} (ha : SE Γ E X a a') : SE Γ E X (.neg a) (.UnaryOp .USub a' pos) := by
  refine SE.of ((pe_un un_neg ha.pe).imp fun σ H Q ⟨c, ρ, a, w⟩ => ?_) rfl
  unfold evalE at w
  obtain ⟨c0, ρ0, a0, w0⟩ := rE.step a w
  refine ⟨c0, ρ0, a0, w0.imp fun x H1 ⟨c1, d1, b1, a1, hd1, w1⟩ => ?_⟩
  split at w1
  · cases hd1
    exact ⟨_, rfl, Wp.ok w1 a1.rel rfl⟩
  · exact w1.elim
theorem snd_nt {e : Ex} {a' : Expr} (ha : SE Γ E X e a') : SE Γ E X (.nt e) (.UnaryOp .Not a' pos) where
  pe := by
    refine ⟨fun pins s σ H Q I ⟨c, ρ, a, w⟩ => ?_⟩
    unfold evalE at w
    refine UnaryOp_ (thn (ha.pe.run pins s σ H _ I (rE.step a w)) fun v s1 ⟨x, H1, I1, r1, c1, d, b1, a1, hd, w1⟩ => ?_)
    obtain ⟨k, ek, w2⟩ := Wp.opt w1
    refine not_of (thn (tru_ok pins s1 σ H1 x v (fun k H2 => Q (.bl (!k)) H2) I1 r1 ⟨k, truth_ok a1.rel hd ek, Wp.ok w2 a1.rel rfl⟩) fun b s2 ⟨H2, I2, q⟩ => ⟨.bl (!b), H2, I2, rfl, q⟩)
  pt := (pt_not ha.pt).imp fun σ H Q ⟨c, ρ, a, w⟩ => by
    unfold evalE at w
    have w' : WpG X.K Γ E ((evalE Γ.P Γ.cf e ρ c.st).bind fun x st => ((ofOpt st (truth st x)).bind fun b st => (.ok (.t (.bl (!b))) st : R D)).bind fun x st => ofOpt st (truth st x)) c H dEq Q := by
      cases q : evalE Γ.P Γ.cf e ρ c.st with
      | ok d st => rw [q] at w; exact w
      | ex _ _ => rw [q] at w; exact w
      | no => rw [q] at w; exact w
    obtain ⟨c0, ρ0, a0, w0⟩ := rT.step (g := fun b st => .ok (!b) st) a w' fun d st h => by
      cases q : truth st d with
      | none => rw [q] at h; exact absurd rfl h
      | some b => exact ⟨b, rfl, rfl⟩
    exact ⟨c0, ρ0, a0, w0.imp fun b H1 ⟨c1, b1, a1, w1⟩ => Wp.ok (D := dEq) w1 a1.rel rfl⟩
  pw := fun _ _ _ z => by cases z
theorem R.bind_bind {α β γ : Type} (r : R α) (f : α → Store → R β) (g : β → Store → R γ) : (r.bind f).bind g = r.bind fun a st => (f a st).bind g := by cases r <;> rfl
theorem and_test {a b : Ex} {ρ : Env} {c : Cfg} {H : Hp} {σ : L2.St} {Q : Bool → Hp → Prop} (at_ : At X.K Γ c ρ σ H) (w : WpG X.K Γ E ((evalE Γ.P Γ.cf (.and2 a b) ρ c.st).bind fun x st => ofOpt st (truth st x)) c H dEq Q) :
    tAnd (rT X.K Γ E a) (rT X.K Γ E b) σ H Q := by
  unfold evalE at w
  rw [R.bind_bind] at w
  obtain ⟨c0, ρ0, a0, w0⟩ := rT.step (g := fun k st => if k = true then (evalE Γ.P Γ.cf b ρ st).bind fun x st => ofOpt st (truth st x) else .ok false st) at_ w fun d st h => by
    split at h
    · exact ⟨true, rfl, rfl⟩
    · exact ⟨false, rfl, rfl⟩
    · exact absurd rfl h
  refine ⟨c0, ρ0, a0, w0.imp fun k H1 ⟨c1, b1, a1, w1⟩ => ?_⟩
  cases k with
  | true => exact ⟨c1, ρ, a1, w1⟩
  | false => exact Wp.ok (D := dEq) w1 a1.rel rfl
theorem or_test {a b : Ex} {ρ : Env} {c : Cfg} {H : Hp} {σ : L2.St} {Q : Bool → Hp → Prop} (at_ : At X.K Γ c ρ σ H) (w : WpG X.K Γ E ((evalE Γ.P Γ.cf (.or2 a b) ρ c.st).bind fun x st => ofOpt st (truth st x)) c H dEq Q) :
    tOr (rT X.K Γ E a) (rT X.K Γ E b) σ H Q := by
  unfold evalE at w
  rw [R.bind_bind] at w
  obtain ⟨c0, ρ0, a0, w0⟩ := rT.step (g := fun k st => if k = true then .ok true st else (evalE Γ.P Γ.cf b ρ st).bind fun x st => ofOpt st (truth st x)) at_ w fun d st h => by
    split at h
    · exact ⟨true, rfl, rfl⟩
    · exact ⟨false, rfl, rfl⟩
    · exact absurd rfl h
  refine ⟨c0, ρ0, a0, w0.imp fun k H1 ⟨c1, b1, a1, w1⟩ => ?_⟩
  cases k with
  | true => exact Wp.ok (D := dEq) w1 a1.rel rfl
  | false => exact ⟨c1, ρ, a1, w1⟩
theorem and_val {a b : Ex} : ∀ σ H Q, rE X.K Γ E (.and2 a b) σ H Q → tAndV (rE X.K Γ E a) (rE X.K Γ E b) σ H Q := fun σ H Q ⟨c, ρ, at_, w⟩ => by
  unfold evalE at w
  obtain ⟨c0, ρ0, a0, w0⟩ := rE.step at_ w
  refine ⟨c0, ρ0, a0, w0.imp fun x H1 ⟨c1, d, b1, a1, hd, w1⟩ => ?_⟩
  split at w1
  · cases hd
    exact ⟨true, rfl, c1, ρ, a1, w1⟩
  · cases hd
    exact ⟨false, rfl, Wp.ok w1 a1.rel rfl⟩
  · exact w1.elim
theorem or_val {a b : Ex} : ∀ σ H Q, rE X.K Γ E (.or2 a b) σ H Q → tOrV (rE X.K Γ E a) (rE X.K Γ E b) σ H Q := fun σ H Q ⟨c, ρ, at_, w⟩ => by
  unfold evalE at w
  obtain ⟨c0, ρ0, a0, w0⟩ := rE.step at_ w
  refine ⟨c0, ρ0, a0, w0.imp fun x H1 ⟨c1, d, b1, a1, hd, w1⟩ => ?_⟩
  split at w1
  · cases hd
    exact ⟨true, rfl, Wp.ok w1 a1.rel rfl⟩
  · cases hd
    exact ⟨false, rfl, c1, ρ, a1, w1⟩
  · exact w1.elim
theorem snd_and1 {a b : Ex} {a' b' : Expr} (ha : SE Γ E X a a') (hb : SE Γ E X b b') : SE Γ E X (.and2 a b) (.BoolOp .And [a', b'] pos) := by
  have pw : PW X (.BoolOp .And [a', b'] pos) (rT X.K Γ E (.and2 a b)) := (pw_and ha.pt (pw_and1 hb.pt)).imp fun σ H Q ⟨c, ρ, a, w⟩ => and_test a w
  exact ⟨(pe_and ha.pe (pe_one hb.pe)).imp and_val, pw.pt, fun _ _ _ _ => pw⟩
theorem snd_and {a b : Ex} {a' y z : Expr} {r : List Expr} (ha : SE Γ E X a a') (hb : SE Γ E X b (.BoolOp .And (y :: z :: r) pos)) : SE Γ E X (.and2 a b) (.BoolOp .And (a' :: y :: z :: r) pos) := by
  have pw : PW X (.BoolOp .And (a' :: y :: z :: r) pos) (rT X.K Γ E (.and2 a b)) := (pw_and ha.pt (hb.pw _ _ _ rfl)).imp fun σ H Q ⟨c, ρ, a, w⟩ => and_test a w
  exact ⟨(pe_and ha.pe hb.pe).imp and_val, pw.pt, fun _ _ _ _ => pw⟩
theorem snd_or1 {a b : Ex} {a' b' : Expr} (ha : SE Γ E X a a') (hb : SE Γ E X b b') : SE Γ E X (.or2 a b) (.BoolOp .Or [a', b'] pos) := by
  have pw : PW X (.BoolOp .Or [a', b'] pos) (rT X.K Γ E (.or2 a b)) := (pw_or ha.pt (pw_or1 hb.pt)).imp fun σ H Q ⟨c, ρ, a, w⟩ => or_test a w
  exact ⟨(pe_or ha.pe (pe_one hb.pe)).imp or_val, pw.pt, fun _ _ _ _ => pw⟩
theorem snd_or {a b : Ex} {a' y z : Expr} {r : List Expr} (ha : SE Γ E X a a') (hb : SE Γ E X b (.BoolOp .Or (y :: z :: r) pos)) : SE Γ E X (.or2 a b) (.BoolOp .Or (a' :: y :: z :: r) pos) := by
  have pw : PW X (.BoolOp .Or (a' :: y :: z :: r) pos) (rT X.K Γ E (.or2 a b)) := (pw_or ha.pt (hb.pw _ _ _ rfl)).imp fun σ H Q ⟨c, ρ, a, w⟩ => or_test a w
  exact ⟨(pe_or ha.pe hb.pe).imp or_val, pw.pt, fun _ _ _ _ => pw⟩
theorem ite_step {α' β' : Type} {x a b : Ex} {ρ : Env} {c : Cfg} {H : Hp} {σ : L2.St} {f : D → Store → R α'} {D' : Cfg → α' → β' → Prop} {Q : β' → Hp → Prop} (at_ : At X.K Γ c ρ σ H) (w : WpG X.K Γ E ((evalE Γ.P Γ.cf (.ite x a b) ρ c.st).bind f) c H D' Q) :
    rT X.K Γ E x σ H fun k H1 => ∃ c1, At X.K Γ c1 ρ σ H1 ∧ WpG X.K Γ E ((evalE Γ.P Γ.cf (if k = true then a else b) ρ c1.st).bind f) c1 H1 D' Q := by
  unfold evalE at w
  rw [R.bind_bind] at w
  obtain ⟨c0, ρ0, a0, w0⟩ := rT.step (g := fun k st => (evalE Γ.P Γ.cf (if k = true then a else b) ρ st).bind f) at_ w fun d st h => by
    cases q : truth st d with
    | none => rw [q] at h; exact absurd rfl h
    | some k => cases k <;> exact ⟨_, rfl, rfl⟩
  exact ⟨c0, ρ0, a0, w0.imp fun k H1 ⟨c1, b1, a1, w1⟩ => ⟨c1, a1, w1⟩⟩
theorem R.bind_self {α : Type} (r : R α) : r.bind (fun a st => .ok a st) = r := by cases r <;> rfl
theorem snd_ite {x a b : Ex} {x' a' b' : Expr} (hx : SE Γ E X x x') (ha : SE Γ E X a a') (hb : SE Γ E X b b') : SE Γ E X (.ite x a b) (.IfExp x' a' b' pos) where
  pe := (pe_ifExp hx.pt ha.pe hb.pe).imp fun σ H Q ⟨c, ρ, at_, w⟩ => by
    have w' : WpG X.K Γ E ((evalE Γ.P Γ.cf (.ite x a b) ρ c.st).bind fun d st => .ok d st) c H (DenD X.K Γ.Λ) Q := by rw [R.bind_self]; exact w
    obtain ⟨c0, ρ0, a0, w0⟩ := ite_step at_ w'
    refine ⟨c0, ρ0, a0, w0.imp fun k H1 ⟨c1, a1, w1⟩ => ?_⟩
    rw [R.bind_self] at w1
    cases k with
    | true => exact ⟨c1, ρ, a1, w1⟩
    | false => exact ⟨c1, ρ, a1, w1⟩
  pt := ⟨fun pins s σ H Q I ⟨c, ρ, at_, w⟩ => by
    have e : isTrue (.IfExp x' a' b' pos) X.env (eval (.IfExp x' a' b' pos) X.env) = (do if ← isTrue x' X.env (eval x' X.env) then isTrue a' X.env (eval a' X.env) else isTrue b' X.env (eval b' X.env)) := rfl
    rw [e]
    refine wpAny_bind (thn (hx.pt.run pins s σ H _ I (ite_step at_ w)) fun k s1 ⟨H1, I1, c1, a1, w1⟩ => ?_)
    cases k with
    | true => exact ha.pt.run pins s1 σ H1 Q I1 ⟨c1, ρ, a1, w1⟩
    | false => exact hb.pt.run pins s1 σ H1 Q I1 ⟨c1, ρ, a1, w1⟩⟩
  pw := fun _ _ _ z => by cases z
theorem cmp_read {o : COp} {a b : Ex} : ∀ σ H Q, rE X.K Γ E (.cmp o a b) σ H Q → tOp (rCmp X.K Γ.Λ Γ.TB o) (rE X.K Γ E a) (rE X.K Γ E b) σ H Q := fun σ H Q ⟨c, ρ, at_, w⟩ => by
  unfold evalE at w
  obtain ⟨c0, ρ0, a0, w0⟩ := rE.step at_ w
  refine ⟨c0, ρ0, a0, w0.imp fun x H1 ⟨c1, d1, b1, a1, hd1, w1⟩ => ?_⟩
  obtain ⟨c0, ρ0, a0, w0⟩ := rE.step a1 w1
  refine ⟨c0, ρ0, a0, w0.imp fun y H2 ⟨c2, d2, b2, a2, hd2, w2⟩ => ?_⟩
  obtain ⟨z, ez, w3⟩ := Wp.opt w2
  exact ⟨c2, d1, d2, z, a2.rel, DenD.mono b2.ext d1 x hd1, hd2, ez, Wp.ok w3 a2.rel rfl⟩
/-- a reading of a test by the reading of its value, a bool -/
theorem test_of {e : Ex} (hb : ∀ ρ st d st', evalE Γ.P Γ.cf e ρ st = .ok d st' → ∃ k, d = .t (.bl k)) : ∀ σ H Q, rT X.K Γ E e σ H Q → rE X.K Γ E e σ H fun x H' => ∃ k, x = .bl k ∧ Q k H' := fun σ H Q ⟨c, ρ, at_, w⟩ => by
  refine ⟨c, ρ, at_, ?_⟩
  cases q : evalE Γ.P Γ.cf e ρ c.st with
  | ok d st =>
    rw [q] at w
    obtain ⟨k, rfl⟩ := hb _ _ _ _ q
    intro c' H' v b' es hd
    cases hd
    exact ⟨k, rfl, w c' H' k b' es rfl⟩
  | ex _ _ => rw [q] at w; exact w
  | no => rw [q] at w; exact w
theorem R.bind_eq_ok {α β : Type} {r : R α} {f : α → Store → R β} {b : β} {st' : Store} (h : r.bind f = .ok b st') : ∃ a st, r = .ok a st ∧ f a st = .ok b st' := by
  cases r with
  | ok a st => exact ⟨a, st, rfl, h⟩
  | ex _ _ => cases h
  | no => cases h
theorem cmp_bl {o : COp} {a b : Ex} : ∀ ρ st d st', evalE Γ.P Γ.cf (.cmp o a b) ρ st = .ok d st' → ∃ k, d = .t (.bl k) := fun ρ st d st' h => by
  unfold evalE at h
  obtain ⟨x, s1, e1, h⟩ := R.bind_eq_ok h
  obtain ⟨y, s2, e2, h⟩ := R.bind_eq_ok h
  obtain ⟨k, s3, e3, h⟩ := R.bind_eq_ok h
  cases h
  exact ⟨k, rfl⟩
theorem chain_bl {o p : COp} {a b e : Ex} : ∀ ρ st d st', evalE Γ.P Γ.cf (.chain o p a b e) ρ st = .ok d st' → ∃ k, d = .t (.bl k) := fun ρ st d st' h => by
  unfold evalE at h
  obtain ⟨x, s1, e1, h⟩ := R.bind_eq_ok h
  obtain ⟨y, s2, e2, h⟩ := R.bind_eq_ok h
  obtain ⟨k, s3, e3, h⟩ := R.bind_eq_ok h
  cases k with
  | false => cases h; exact ⟨_, rfl⟩
  | true =>
    obtain ⟨z, s4, e4, h⟩ := R.bind_eq_ok h
    obtain ⟨k, s5, e5, h⟩ := R.bind_eq_ok h
    cases h
    exact ⟨k, rfl⟩
theorem Good.units (G : Good Γ n N sc lm X E) : X.A.units + 200 < cLine := by
  have := G.room.un
  omega
theorem snd_cmp {o : COp} {a b : Ex} {a' b' : Expr} (G : Good Γ n N sc lm X E) (ha : SE Γ E X a a') (hb : SE Γ E X b b') (hs : notSet b' = true) : SE Γ E X (.cmp o a b) (.Compare a' [opC o] [b'] pos) where
  pe := (pe_cmpR (opCmp o G.units) ha.pe hb.pe (behind_ok hs)).imp cmp_read
  pt := (pt_cmpR (opCmp o G.units) ha.pe hb.pe (behind_ok hs)).imp fun σ H Q h => cmp_read σ H _ (test_of cmp_bl σ H Q h)
  pw := fun _ _ _ z => by cases z
theorem chain_read {o p : COp} {a b e : Ex} : ∀ σ H Q, rE X.K Γ E (.chain o p a b e) σ H Q → tChain (rCmp X.K Γ.Λ Γ.TB o) (rCmp X.K Γ.Λ Γ.TB p) (rE X.K Γ E a) (rE X.K Γ E b) (rE X.K Γ E e) σ H Q := fun σ H Q ⟨c, ρ, at_, w⟩ => by
  unfold evalE at w
  obtain ⟨c0, ρ0, a0, w0⟩ := rE.step at_ w
  refine ⟨c0, ρ0, a0, w0.imp fun x H1 ⟨c1, d1, b1, a1, hd1, w1⟩ => ?_⟩
  obtain ⟨c0, ρ0, a0, w0⟩ := rE.step a1 w1
  refine ⟨c0, ρ0, a0, w0.imp fun y H2 ⟨c2, d2, b2, a2, hd2, w2⟩ => ?_⟩
  obtain ⟨k, ez, w3⟩ := Wp.opt w2
  refine ⟨c2, d1, d2, k, a2.rel, DenD.mono b2.ext d1 x hd1, hd2, ez, k, rfl, ?_⟩
  cases k with
  | false => exact Wp.ok w3 a2.rel rfl
  | true =>
    obtain ⟨c0, ρ0, a0, w0⟩ := rE.step a2 w3
    refine ⟨c0, ρ0, a0, w0.imp fun z H3 ⟨c3, d3, b3, a3, hd3, w4⟩ => ?_⟩
    obtain ⟨k, ek, w5⟩ := Wp.opt w4
    exact ⟨c3, d2, d3, k, a3.rel, DenD.mono b3.ext d2 y hd2, hd3, ek, Wp.ok w5 a3.rel rfl⟩
theorem last_ok {o p : CmpOp} {b c : Expr} (h : notSet c = true) : lastMarks [o, p] [b, c] = false := behind_ok h
theorem snd_chain {o p : COp} {a b e : Ex} {a' b' e' : Expr} (G : Good Γ n N sc lm X E) (ha : SE Γ E X a a') (hb : SE Γ E X b b') (he : SE Γ E X e e') (hs : notSet e' = true) : SE Γ E X (.chain o p a b e) (.Compare a' [opC o, opC p] [b', e'] pos) where
  pe := (pe_chain (opCmp o G.units) (opCmp p G.units) ha.pe hb.pe he.pe (last_ok hs)).imp chain_read
  pt := (pt_chain (opCmp o G.units) (opCmp p G.units) ha.pe hb.pe he.pe (last_ok hs)).imp fun σ H Q h => chain_read σ H _ (test_of chain_bl σ H Q h)
  pw := fun _ _ _ z => by cases z
end
end Ice
end

section
set_option Elab.async false
set_option linter.all false
set_option maxRecDepth 100000
set_option maxHeartbeats 4000000
namespace Ice
open PySem PySem.Spec PyProof.Rows PySem.W L2
mutual
theorem noDict_py : ∀ (t : T), t.data = true → t.py.hasDict = false
  | .non, _ => rfl
  | .bl _, _ => rfl
  | .int _, _ => rfl
  | .str _, _ => rfl
  | .tup xs, h => by
    show PyData.hasDictAll (pyAll xs) = false
    exact noDict_all xs h
  | .lst xs, h => by
    show PyData.hasDictAll (pyAll xs) = false
    exact noDict_all xs h
  | .ins _ _, h => by cases h
  | .dct _, h => by cases h
  | .fn _, h => by cases h
  | .scr _, h => by cases h
  | .wt _, h => by cases h
theorem noDict_all : ∀ (xs : List T), dataAll xs = true → PyData.hasDictAll (pyAll xs) = false
  | [], _ => rfl
  | x :: xs, h => by
    have h' : (x.data && dataAll xs) = true := h
    rw [Bool.and_eq_true] at h'
    show (x.py.hasDict || PyData.hasDictAll (pyAll xs)) = false
    rw [noDict_py x h'.1, noDict_all xs h'.2]
    rfl
end
section
variable {X : Cx} {Λ : Lay} {TB : List (Addr × Str)}
theorem den_seq {K : PySem.W.Frag} {S : Hp} {x : T} {v : V} (h : x.isSeq = true) (d : Den K Λ S x v) : ∃ a, v = .ref a := by
  cases x <;> first | (cases h; done) | (simp only [Den] at d; obtain ⟨a, _, rfl, _⟩ := d; exact ⟨a, rfl⟩)
theorem cr_repr (hg : X.A.guards = some []) (hu : X.A.units + 200 < cLine) : CallR X (.builtin "repr") (rBi X.K Λ TB .repr) := by
  intro pins s σ H vs us Q I rv ⟨c, ds, d, r, hd, e, q⟩
  obtain ⟨a, rfl, e0⟩ := one_some e
  obtain ⟨v, rfl, hv⟩ := one_of hd
  unfold reprD at e0
  split at e0
  · rename_i x
    split at e0
    · rename_i hc
      cases e0
      simp only [Bool.and_eq_true, decide_eq_true_eq] at hc
      obtain ⟨⟨⟨⟨h1, h2⟩, h3⟩, h4⟩, h5⟩ := hc
      obtain ⟨p, rfl⟩ := den_seq h1 hv
      cases rv with
      | @cons _ u _ us ru rt =>
        cases rt
        obtain rfl : u = Value.ref p := ru
        obtain ⟨as, rd⟩ := reads_den I r x (.ref p) (.ref p) h2 hv rfl
        refine repr_of_reads' rd h3 (fun z => by rw [noDict_py x h2] at z; cases z) hg (by unfold deepest at h4; omega) (fun _ _ e => e) (fun h' u tk hk => ⟨.str x.py.shown, H, I.kept hk, ⟨u, rfl⟩, q.here r rfl⟩) (by rw [sizeLine_eq]; omega)
    · cases e0
  · cases e0
end
end Ice
end

section
set_option Elab.async false
set_option linter.all false
set_option maxRecDepth 100000
set_option maxHeartbeats 4000000
namespace Ice
open PySem PySem.Spec PyProof.Rows PySem.W L2
section
variable {Γ : Gm} {E : XK} {X : Cx} {n : Nat} {N : List Str} {sc : Scope} {lm : Bool} {pos : Pos}
/-! ### argument lists, displays -/
abbrev SA (Γ : Gm) (E : XK) (X : Cx) (es : Exs) (es' : List Expr) : Prop := PA X es' (rA X.K Γ E es)
theorem snd_nil : SA Γ E X .nil [] := pa_nil.imp fun σ H Q ⟨c, ρ, a, w⟩ => by
  unfold evalEs at w
  exact Wp.ok w a.rel rfl
theorem snd_cons {e : Ex} {r : Exs} {e' : Expr} {r' : List Expr} (he : SE Γ E X e e') (hr : SA Γ E X r r') (hs : notStar e' = true) : SA Γ E X (.cons e r) (e' :: r') := (pa_cons he.pe hr (star_one hs r' X.env)).imp fun σ H Q ⟨c, ρ, a, w⟩ => by
  unfold evalEs at w
  obtain ⟨c0, ρ0, a0, w0⟩ := rE.step a w
  refine ⟨c0, ρ0, a0, w0.imp fun x H1 ⟨c1, d1, b1, a1, hd1, w1⟩ => ?_⟩
  obtain ⟨c0, ρ0, a0, w0⟩ := rA.step a1 w1
  refine ⟨c0, ρ0, a0, w0.imp fun xs H2 ⟨c2, ds, b2, a2, hd2, w2⟩ => ?_⟩
  exact Wp.ok w2 a2.rel ⟨x, xs, rfl, DenD.mono b2.ext d1 x hd1, hd2⟩
theorem few_some {α : Type} {ds es : List α} (h : few ds = some es) : es = ds ∧ ds.length ≤ sizeLine := by
  unfold few at h
  split at h
  · rename_i hc
    cases h
    have := of_decide_eq_true hc
    exact ⟨rfl, by rw [sizeLine_eq]; omega⟩
  · cases h
theorem snd_tup {es : Exs} {es' : List Expr} {k : Nat} (h : SA Γ E X es es') : SE Γ E X (.tup es) (.Tuple es' k pos) := by
  refine SE.of ((pe_tup h).imp fun σ H Q ⟨c, ρ, a, w⟩ => ?_) rfl
  unfold evalE at w
  obtain ⟨c0, ρ0, a0, w0⟩ := rA.step a w
  refine ⟨c0, ρ0, a0, w0.imp fun vs H1 ⟨c1, ds, b1, a1, hd, w1⟩ => ?_⟩
  obtain ⟨es, e1, w2⟩ := Wp.opt w1
  obtain ⟨rfl, hl⟩ := few_some e1
  obtain ⟨xs, e2, w3⟩ := Wp.opt w2
  refine ⟨by rw [← hd.length]; exact hl, fun p hp => w3.out.tup a1.rel (Dens.trees e2 hd) hp⟩
/-! ### subscripts, slices -/
theorem snd_sub {a i : Ex} {a' i' : Expr} (G : Good Γ n N sc lm X E) (ha : SE Γ E X a a') (hi : SE Γ E X i i') (hs : notSlice i' = true) : SE Γ E X (.sub a i) (.Subscript a' i' pos) := by
  refine SE.of ((pe_ix (ixSub (Λ := Γ.Λ) (TB := Γ.TB) (by have := G.units; omega)) ha.pe hi.pe (plain_ix hs)).imp fun σ H Q ⟨c, ρ, at_, w⟩ => ?_) rfl
  unfold evalE at w
  obtain ⟨c0, ρ0, a0, w0⟩ := rE.step at_ w
  refine ⟨c0, ρ0, a0, w0.imp fun x H1 ⟨c1, d1, b1, a1, hd1, w1⟩ => ?_⟩
  obtain ⟨c0, ρ0, a0, w0⟩ := rE.step a1 w1
  refine ⟨c0, ρ0, a0, w0.imp fun y H2 ⟨c2, d2, b2, a2, hd2, w2⟩ => ?_⟩
  obtain ⟨z, ez, w3⟩ := Wp.opt1 w2
  exact ⟨c2, d1, d2, z, a2.rel, DenD.mono b2.ext d1 x hd1, hd2, ez, fun v hv => Wp.ok w3 a2.rel hv⟩
abbrev SO (Γ : Gm) (E : XK) (X : Cx) (o : Ox) (o' : Option Expr) : Prop := PO X o' (rO X.K Γ E o)
theorem _root_.L2.PO.imp {X : Cx} {e : Option Expr} {t t' : TO} (h : PO X e t) (i : ∀ σ H Q, t' σ H Q → t σ H Q) : PO X e t' := ⟨fun pins s σ H Q I q => h.run pins s σ H Q I (i σ H Q q)⟩
theorem snd_onone : SO Γ E X .non none := po_none.imp fun σ H Q ⟨c, ρ, a, w⟩ => by
  unfold evalO at w
  exact Wp.ok (D := dEq) w a.rel rfl
theorem snd_osome {e : Ex} {e' : Expr} (h : SE Γ E X e e') : SO Γ E X (.som e) (some e') := (po_some h.pe).imp fun σ H Q ⟨c, ρ, a, w⟩ => by
  unfold evalO at w
  obtain ⟨c0, ρ0, a0, w0⟩ := rE.step a w
  refine ⟨c0, ρ0, a0, w0.imp fun x H1 ⟨c1, d1, b1, a1, hd1, w1⟩ => ?_⟩
  split at w1
  · cases hd1
    exact ⟨_, rfl, Wp.ok (D := dEq) w1 a1.rel rfl⟩
  · exact w1.elim
def rCut (K : PySem.W.Frag) (Γ : Gm) : V → Option Int → Option Int → Hp → VK → Prop := fun x lo hi H Q =>
  (∃ c xs, Rel K Γ.Λ Γ.TB c H ∧ SeenH K Γ.Λ c H (.lst xs) x ∧ Out K Γ.Λ Γ.TB c H (.lst (cutL xs lo hi)) Q) ∨
  ∃ c xs, Rel K Γ.Λ Γ.TB c H ∧ SeenH K Γ.Λ c H (.tup xs) x ∧ Out K Γ.Λ Γ.TB c H (.tup (cutL xs lo hi)) Q
theorem Dens.cut {S : Hp} {K : PySem.W.Frag} {Λ : Lay} {xs : List T} {vs : List V} (h : Dens K Λ S xs vs) (lo hi : Option Int) : Dens K Λ S (cutL xs lo hi) (cutV vs lo hi) := by
  unfold cutL cutV
  rw [h.length]
  exact (h.drop _).take _
theorem sl_cut : SlR X (rCut X.K Γ) := by
  intro pins s σ H x v vl vu lo hi sl Q I rx hs pl pu h
  rcases h with ⟨c, xs, r, ⟨a, vs, rfl, h1, h2⟩, q⟩ | ⟨c, xs, r, h0, q⟩
  · exact sl_list pins s σ H _ v vl vu lo hi sl Q I rx hs pl pu ⟨a, vs, rfl, .inl (.inl h1), fun p hp => q.lst r (h2.cut lo hi) hp⟩
  · have h0' : Den X.K Γ.Λ c.S (.tup xs) x := h0
    have h9 := h0'
    simp only [Den] at h9
    obtain ⟨a, vs, rfl, h1, h2⟩ := h9
    refine sl_tupA pins s σ H _ v vl vu lo hi sl Q I rx hs pl pu ⟨a, vs, rfl, .inl (.inl (r.sub _ _ h1)), fun hw => ?_, fun _ p hp => q.tup r (h2.cut lo hi) hp⟩
    have e : cutL xs lo hi = xs := by
      unfold cutL
      rw [h2.length, hw.1, hw.2, List.drop_zero, Nat.sub_zero, ← h2.length, List.take_length]
    rw [e] at q
    exact q.here r h0'
theorem snd_cut {a : Ex} {lo hi : Ox} {a' : Expr} {lo' hi' : Option Expr} {p2 : Pos} (ha : SE Γ E X a a') (hl : SO Γ E X lo lo') (hh : SO Γ E X hi hi') : SE Γ E X (.cut a lo hi) (.Subscript a' (.Slice lo' hi' none p2) pos) := by
  refine SE.of ((pe_slice (sl_cut (Γ := Γ)) ha.pe hl hh).imp fun σ H Q ⟨c, ρ, at_, w⟩ => ?_) rfl
  unfold evalE at w
  obtain ⟨c0, ρ0, a0, w0⟩ := rE.step at_ w
  refine ⟨c0, ρ0, a0, w0.imp fun x H1 ⟨c1, d1, b1, a1, hd1, w1⟩ => ?_⟩
  obtain ⟨c0, ρ0, a0, w0⟩ := rO.step a1 w1
  refine ⟨c0, ρ0, a0, w0.imp fun l H2 ⟨c2, b2, a2, w2⟩ => ?_⟩
  obtain ⟨c0, ρ0, a0, w0⟩ := rO.step a2 w2
  refine ⟨c0, ρ0, a0, w0.imp fun u H3 ⟨c3, b3, a3, w3⟩ => ?_⟩
  obtain ⟨t, et, w4⟩ := Wp.opt w3
  have hx := seenH_of a3.rel (DenD.mono b3.ext _ _ (DenD.mono b2.ext d1 x hd1)) et
  split at w4
  · exact .inl ⟨c3, _, a3.rel, hx, w4.out⟩
  · exact .inr ⟨c3, _, a3.rel, hx, w4.out⟩
  · exact w4.elim
def isM1 : Expr → Bool
  | .UnaryOp op e _ => decide (op = .USub) && (match e with
    | .Constant k _ _ => match k with
      | .int i => decide (i = 1)
      | _ => false
    | _ => false)
  | _ => false
theorem isM1_ok {e : Expr} (h : isM1 e = true) : ∃ k p1 p2, e = .UnaryOp .USub (.Constant (.int 1) k p1) p2 := by
  unfold isM1 at h
  split at h
  · rename_i op e p
    rw [Bool.and_eq_true] at h
    obtain ⟨h1, h⟩ := h
    have h1 := of_decide_eq_true h1
    subst h1
    split at h
    · split at h
      · have h2 := of_decide_eq_true h
        subst h2
        exact ⟨_, _, _, rfl⟩
      · cases h
    · cases h
  · cases h
theorem snd_rev {a : Ex} {a' e' : Expr} {p2 : Pos} (ha : SE Γ E X a a') (hm : isM1 e' = true) : SE Γ E X (.rev a) (.Subscript a' (.Slice none none (some e') p2) pos) := by
  obtain ⟨k, q1, q2, rfl⟩ := isM1_ok hm
  refine SE.of ((pe_revL ha.pe).imp fun σ H Q ⟨c, ρ, at_, w⟩ => ?_) rfl
  unfold evalE at w
  obtain ⟨c0, ρ0, a0, w0⟩ := rE.step at_ w
  refine ⟨c0, ρ0, a0, w0.imp fun x H1 ⟨c1, d1, b1, a1, hd1, w1⟩ => ?_⟩
  obtain ⟨t, et, w2⟩ := Wp.opt w1
  have hx := seen_of a1.rel hd1 et
  split at w2
  · obtain ⟨p, vs, rfl, h1, h2⟩ := hx
    exact ⟨p, vs, rfl, .inl (.inl h1), fun l hl => w2.out.lst a1.rel h2.reverse hl⟩
  · exact w2.elim
/-! ### built-ins -/
theorem bi_read {b : Bi} {es : Exs} : ∀ σ H Q, rE X.K Γ E (.bi b es) σ H Q → tCB (rBi X.K Γ.Λ Γ.TB b) (rA X.K Γ E es) σ H Q := fun σ H Q ⟨c, ρ, at_, w⟩ => by
  unfold evalE at w
  obtain ⟨c0, ρ0, a0, w0⟩ := rA.step at_ w
  refine ⟨c0, ρ0, a0, w0.imp fun vs H1 ⟨c1, ds, b1, a1, hd1, w1⟩ => ?_⟩
  obtain ⟨d, ed, w2⟩ := Wp.opt1 w1
  exact ⟨c1, ds, d, a1.rel, hd1, ed, w2.outD⟩
def biOk : Bi → Bool
  | .len | .int | .tuple | .sum | .min | .max | .sorted | .all | .any => true
  | _ => false
theorem mem_blt {x : Str} {L : List Str} (h : decide (x ∈ L) = true) : x ∈ L := of_decide_eq_true h
theorem snd_bi {b : Bi} {es : Exs} {e : Expr} {es' : List Expr} {p : Pos} (G : Good Γ n N sc lm X E) (hg : GlOk X.env.scope (biName b)) (hb : biOk b = true) (h : SA Γ E X es (e :: es')) (hs : noStars (e :: es') = true) : SE Γ E X (.bi b es) (.Call (.Name (biName b) p) (e :: es') [] pos) := by
  refine SE.of (PE.imp (t := tCB (rBi X.K Γ.Λ Γ.TB b) (rA X.K Γ E es)) ?_ bi_read) rfl
  have h1 : notStar e = true ∧ noStars es' = true := by simpa [noStars] using hs
  have st := star_one h1.1 es' X.env
  have sa := star_any (pos := pos) (env := X.env) h1.2
  have mg : ∀ x ∈ bltNames, X.mg x = none := G.lnk.blt
  cases b with
  | len => exact pe_callB (X := X) cr_len hg.gl (mg _ (by decide)) (by rfl) h (by decide) (by decide) st sa
  | sum => exact pe_callB (X := X) (cr_sumB G.calm) hg.gl (mg _ (by decide)) (by rfl) h (by decide) (by decide) st sa
  | min => exact pe_callB (X := X) (cr_minB G.calm G.units) hg.gl (mg _ (by decide)) (by rfl) h (by decide) (by decide) st sa
  | max => exact pe_callB (X := X) (cr_maxB G.calm G.units) hg.gl (mg _ (by decide)) (by rfl) h (by decide) (by decide) st sa
  | sorted => exact pe_callB (X := X) (cr_sortB G.units) hg.gl (mg _ (by decide)) (by rfl) h (by decide) (by decide) st sa
  | all => exact pe_callB (X := X) (cr_allB G.calm) hg.gl (mg _ (by decide)) (by rfl) h (by decide) (by decide) st sa
  | any => exact pe_callB (X := X) (cr_anyB G.calm) hg.gl (mg _ (by decide)) (by rfl) h (by decide) (by decide) st sa
  | int => exact pe_callTy (X := X) cr_int hg.gl (mg _ (by decide)) (by rfl) h (by decide) (by decide) st sa
  | tuple => exact pe_callTy (X := X) cr_tup hg.gl (mg _ (by decide)) (by rfl) h (by decide) (by decide) st sa
  | _ => cases hb
theorem snd_repr {es : Exs} {e : Expr} {es' : List Expr} {p : Pos} (G : Good Γ n N sc lm X E) (hgd : X.A.guards = some []) (hg : GlOk X.env.scope (biName .repr)) (h : SA Γ E X es (e :: es')) (hs : noStars (e :: es') = true) : SE Γ E X (.bi .repr es) (.Call (.Name (biName .repr) p) (e :: es') [] pos) := by
  refine SE.of (PE.imp (t := tCB (rBi X.K Γ.Λ Γ.TB .repr) (rA X.K Γ E es)) ?_ bi_read) rfl
  have h1 : notStar e = true ∧ noStars es' = true := by simpa [noStars] using hs
  exact pe_callB (X := X) (cr_repr hgd G.units) hg.gl (G.lnk.blt _ (by decide)) (by rfl) h (by decide) (by decide) (star_one h1.1 es' X.env) (star_any (pos := pos) (env := X.env) h1.2)
end
end Ice
end

section
set_option Elab.async false
set_option linter.all false
set_option maxRecDepth 100000
set_option maxHeartbeats 4000000
namespace Ice
open PySem PySem.Spec PyProof.Rows PySem.W L2
section
variable {K : PySem.W.Frag} {Λ : Lay} {TB : List (Addr × Str)} {c c' : Cfg} {H H' : Hp} {a : Addr}
/-! ### objects that nothing speaks of -/
structure Loose (c : Cfg) (H' : Hp) (a : Addr) : Prop where
  still : c.S a = none
  live : ∀ k, Live c.st k → c.φ k ≠ a
  obj : H' a = none ∨ ∃ xs, H' a = some (.lst xs)
theorem loose_new (r : Rel K Λ TB c H) (h : H a = none) : Loose c H a := by
  refine ⟨?_, fun k l => r.none_ne h l, .inl h⟩
  cases e : c.S a with
  | none => rfl
  | some u => rw [r.sub a u e] at h; cases h
theorem tabs_at {o : HO} (t : LamX.Tabs TB H) (h : H a = none ∨ ∃ xs, H a = some (.lst xs)) : LamX.Tabs TB (upd H a o) := by
  have ne : ∀ b u, H b = some u → (∀ xs, u ≠ .lst xs) → b ≠ a := fun b u e n z => by
    subst z
    rcases h with h | ⟨xs, h⟩
    · rw [h] at e; cases e
    · rw [h] at e; exact n xs (Option.some.inj e).symm
  intro p hp
  obtain ⟨ps, h1, h2, h3⟩ := t p hp
  refine ⟨ps, ?_, h2, fun pos cv hc => ?_⟩
  · rw [upd_ne (ne _ _ h1 fun xs z => by cases z)]
    exact h1
  · obtain ⟨cc, e1, e2⟩ := h3 pos cv hc
    refine ⟨cc, e1, ?_⟩
    rw [upd_ne (ne _ _ e2 fun xs z => by cases z)]
    exact e2
theorem Rel.noise {o : HO} (r : Rel K Λ TB c H) (l : Loose c H a) : Rel K Λ TB c (upd H a o) := by
  refine ⟨fun b u e => ?_, r.not, fun k u h1 h2 => ?_, r.inj, tabs_at r.tab l.obj⟩
  · rw [upd_ne (ne_of_none e l.still)]
    exact r.sub b u e
  · rw [upd_ne (l.live k ⟨u, h1, h2⟩)]
    exact r.obj k u h1 h2
theorem After.noise {o : HO} (b : After K Λ TB c H c' H') (hn : Free H a) (l : Loose c' H' a) : After K Λ TB c H c' (upd H' a o) := by
  refine ⟨b.sub, b.phi, b.len, fun p u e n k => ?_, fun p u e n => ?_, b.fresh, b.dead, b.own, b.rel.noise l⟩
  · rw [upd_ne fun z => n (hn u (by rw [← z]; exact e))]
    exact b.keep p u e n k
  · obtain ⟨u', e', n'⟩ := b.there p u e n
    rw [upd_ne fun z => n (hn u (by rw [← z]; exact e))]
    exact ⟨u', e', n'⟩
theorem Loose.upd {o : HO} (l : Loose c H a) {xs : List V} (e : o = .lst xs) : Loose c (upd H a o) a := ⟨l.still, l.live, .inr ⟨xs, by rw [upd_same, e]⟩⟩
/-- what is loose stays loose, as it is -/
theorem Loose.move {xs : List V} (b : After K Λ TB c H c' H') (l : Loose c H a) (h : H a = some (.lst xs)) : H' a = some (.lst xs) ∧ Loose c' H' a := by
  have e : H' a = some (.lst xs) := b.keep a _ h (fun ⟨_, z⟩ => by cases z) l.live
  have hs : c'.S a = none := by
    cases q : c'.S a with
    | none => rfl
    | some u =>
      rcases b.own a u q l.still with z | ⟨k, lv, z⟩
      · obtain ⟨_, q⟩ := z _ h; cases q
      · exact absurd z (l.live k lv)
  refine ⟨e, hs, fun k lv z => ?_, .inr ⟨xs, e⟩⟩
  by_cases hk : k < c.st.length
  · exact l.live k (b.liveBack hk lv) ((b.phi k hk).symm.trans z)
  · obtain ⟨_, q⟩ := b.fresh k (Nat.le_of_not_lt hk) lv _ (by rw [z]; exact h)
    cases q
/-- a loose list is taken as still -/
theorem After.adoptS {vs : List V} (b : After K Λ TB c H c' H') (hn : Free H a) (l : Loose c' H' a) (h : H' a = some (.lst vs)) : After K Λ TB c H ⟨upd c'.S a (.lst vs), c'.φ, c'.st⟩ H' := by
  have sub : ∀ p u, c'.S p = some u → upd c'.S a (.lst vs) p = some u := fun p u e => by rw [upd_ne (ne_of_none e l.still)]; exact e
  have ex : Ext c' ⟨upd c'.S a (.lst vs), c'.φ, c'.st⟩ := ⟨sub, fun _ _ => rfl, Nat.le_refl _⟩
  refine ⟨fun p u e => sub p u (b.sub p u e), b.phi, b.len, b.keep, b.there, b.fresh, b.dead, fun p u e n => ?_, ⟨fun p u e => ?_, fun p ps e => ?_, fun k u h1 h2 => ?_, b.rel.inj, b.rel.tab⟩⟩
  · by_cases z : p = a
    · rw [z]; exact .inl hn
    · have e' : upd c'.S a (.lst vs) p = some u := e
      rw [upd_ne z] at e'
      exact b.own p u e' n
  · have e' : upd c'.S a (.lst vs) p = some u := e
    by_cases z : p = a
    · rw [z, upd_same] at e'
      rw [z, ← e']
      exact h
    · rw [upd_ne z] at e'
      exact b.rel.sub p u e'
  · have e' : upd c'.S a (.lst vs) p = some (.tbl ps) := e
    by_cases z : p = a
    · rw [z, upd_same] at e'
      cases e'
    · rw [upd_ne z] at e'
      exact b.rel.not p ps e'
  · obtain ⟨q1, q2⟩ := b.rel.obj k u h1 h2
    refine ⟨ObjR.mono ex u _ q1, ?_⟩
    show upd c'.S a (.lst vs) (c'.φ k) = none
    rw [upd_ne (l.live k ⟨u, h1, h2⟩)]
    exact q2
/-- .. as an object with a handle -/
theorem After.adoptH {vs : List V} {ds : List D} (b : After K Λ TB c H c' H') (hn : Free H a) (l : Loose c' H' a) (h : H' a = some (.lst vs)) (hd : DensD K Λ c' ds vs) :
    After K Λ TB c H ⟨c'.S, snoc c'.φ c'.st.length a, c'.st ++ [.lst ds]⟩ H' := by
  have phi : ∀ k, k < c'.st.length → snoc c'.φ c'.st.length a k = c'.φ k := fun k h => snoc_ne (Nat.ne_of_lt h)
  have ex : Ext c' ⟨c'.S, snoc c'.φ c'.st.length a, c'.st ++ [.lst ds]⟩ := ⟨fun _ _ h => h, phi, by simp⟩
  have old : ∀ {k : Nat} {u : O}, (c'.st ++ [O.lst ds])[k]? = some u → k < c'.st.length → c'.st[k]? = some u := fun {k u} h hk => by rwa [List.getElem?_append_left hk] at h
  have last : ∀ {k : Nat} {u : O}, (c'.st ++ [O.lst ds])[k]? = some u → ¬ k < c'.st.length → k = c'.st.length ∧ u = .lst ds := fun {k u} h hk => by
    have hlt := (List.getElem?_eq_some_iff.mp h).1
    rw [List.length_append, List.length_singleton] at hlt
    have e : k = c'.st.length := by omega
    subst e
    rw [List.getElem?_append_right (Nat.le_refl _), Nat.sub_self] at h
    exact ⟨rfl, (Option.some.inj h).symm⟩
  refine ⟨b.sub, fun k hk => (phi k (Nat.lt_of_lt_of_le hk b.len)).trans (b.phi k hk), by simp; exact Nat.le_succ_of_le b.len, b.keep, b.there, fun k hk ⟨u, h1, h2⟩ => ?_, fun k hk => ?_, b.own, ⟨b.rel.sub, b.rel.not, fun k u h1 h2 => ?_, fun i j hi hj e => ?_, b.rel.tab⟩⟩
  · by_cases hlt : k < c'.st.length
    · show Free H (snoc c'.φ c'.st.length a k)
      rw [phi k hlt]
      exact b.fresh k hk ⟨u, old h1 hlt, h2⟩
    · obtain ⟨e, _⟩ := last h1 hlt
      subst e
      show Free H (snoc c'.φ c'.st.length a c'.st.length)
      rw [snoc_same]
      exact hn
  · have q := b.dead k hk
    show (c'.st ++ [O.lst ds])[k]? = some .dead
    rw [List.getElem?_append_left (List.getElem?_eq_some_iff.mp q).1]
    exact q
  · by_cases hlt : k < c'.st.length
    · obtain ⟨q1, q2⟩ := b.rel.obj k u (old h1 hlt) h2
      show ObjR K Λ _ u (H' (snoc c'.φ c'.st.length a k)) ∧ c'.S (snoc c'.φ c'.st.length a k) = none
      rw [phi k hlt]
      exact ⟨ObjR.mono ex u _ q1, q2⟩
    · obtain ⟨e, e2⟩ := last h1 hlt
      subst e e2
      show ObjR K Λ _ (.lst ds) (H' (snoc c'.φ c'.st.length a c'.st.length)) ∧ c'.S (snoc c'.φ c'.st.length a c'.st.length) = none
      rw [snoc_same]
      exact ⟨⟨vs, h, DensD.mono ex ds vs hd⟩, l.still⟩
  · have e' : snoc c'.φ c'.st.length a i = snoc c'.φ c'.st.length a j := e
    obtain ⟨u, x1, x2⟩ := hi
    obtain ⟨u', y1, y2⟩ := hj
    by_cases hi' : i < c'.st.length
    · by_cases hj' : j < c'.st.length
      · rw [phi i hi', phi j hj'] at e'
        exact b.rel.inj i j ⟨u, old x1 hi', x2⟩ ⟨u', old y1 hj', y2⟩ e'
      · obtain ⟨ej, _⟩ := last y1 hj'
        rw [phi i hi', ej, snoc_same] at e'
        exact absurd e' (l.live i ⟨u, old x1 hi', x2⟩)
    · obtain ⟨ei, _⟩ := last x1 hi'
      by_cases hj' : j < c'.st.length
      · rw [phi j hj', ei, snoc_same] at e'
        exact absurd e'.symm (l.live j ⟨u', old y1 hj', y2⟩)
      · obtain ⟨ej, _⟩ := last y1 hj'
        rw [ei, ej]
end

/-! ### targets -/
mutual
def tgIx : Tg → List Nat
  | .nm i => [i]
  | .tp l => tgsIx l
def tgsIx : Tgs → List Nat
  | .nil => []
  | .cons g r => tgIx g ++ tgsIx r
end
def Same (is : List Nat) (σ σ' : L2.St) : Prop := σ'.length = σ.length ∧ ∀ i, i ∉ is → σ'[i]? = σ[i]?
section
variable (K : PySem.W.Frag) (Γ : Gm)
def rG (g : Tg) : TG := fun v σ H Q => ∃ c d ρ ρ', At K Γ c ρ σ H ∧ DenD K Γ.Λ c d v ∧ bindT g d ρ = some ρ' ∧ ∀ σ', EnvR K Γ.Λ c ρ' σ' → Same (tgIx g) σ σ' → Q σ' H
def rGs (g : Tgs) : TGs := fun vs σ H Q => ∃ c xs ρ ρ', At K Γ c ρ σ H ∧ Dens K Γ.Λ c.S xs vs ∧ bindTs g xs ρ = some ρ' ∧ ∀ σ', EnvR K Γ.Λ c ρ' σ' → Same (tgsIx g) σ σ' → Q σ' H
end
mutual
def mtTg (chk : Nat → Str → Bool) : Tg → Expr → Bool
  | .nm i, e => match e with
    | .Name x _ => chk i x
    | _ => false
  | .tp l, e => match e with
    | .Tuple es _ _ => mtTgs chk l es
    | _ => false
def mtTgs (chk : Nat → Str → Bool) : Tgs → List Expr → Bool
  | .nil, es => match es with
    | [] => true
    | _ => false
  | .cons g r, es => match es with
    | e :: es => notStar e && mtTg chk g e && mtTgs chk r es
    | _ => false
end
theorem _root_.L2.PG.imp {X : Cx} {e : Expr} {t t' : TG} (h : PG X e t) (i : ∀ v σ H Q, t' v σ H Q → t v σ H Q) : PG X e t' := ⟨fun pins s σ H v u Q I r q => h.run pins s σ H v u Q I r (i v σ H Q q)⟩
theorem _root_.L2.PGs.imp {X : Cx} {e : List Expr} {t t' : TGs} (h : PGs X e t) (i : ∀ v σ H Q, t' v σ H Q → t v σ H Q) : PGs X e t' := ⟨fun pins s σ H v u Q I r q => h.run pins s σ H v u Q I r (i v σ H Q q)⟩
theorem _root_.L2.PI.imp {X : Cx} {tg e : Expr} {t t' : TI} (h : PI X tg e t) (i : ∀ σ H Q, t' σ H Q → t σ H Q) : PI X tg e t' := ⟨fun pins s σ H R I q => h.run pins s σ H R I (i σ H R q)⟩
section
variable {Γ : Gm} {E : XK} {X : Cx} {n : Nat} {N : List Str} {sc : Scope} {lm : Bool} {pos : Pos}
theorem EnvR.set {K : PySem.W.Frag} {Λ : Lay} {c : Cfg} {ρ : Env} {σ : L2.St} {i : Nat} {d : D} {v : V} (h : EnvR K Λ c ρ σ) (hd : DenD K Λ c d v) : EnvR K Λ c (ρ.set i (some d)) (σ.set i (some v)) := by
  refine ⟨by simp [h.1], fun j e hj => ?_⟩
  by_cases z : i = j
  · subst z
    by_cases hi : i < ρ.length
    · rw [List.getElem?_set_self hi] at hj
      cases hj
      exact ⟨v, List.getElem?_set_self (by rw [← h.1]; exact hi), hd⟩
    · rw [List.getElem?_eq_none (by simp; omega)] at hj
      cases hj
  · rw [List.getElem?_set_ne z] at hj
    obtain ⟨u, h1, h2⟩ := h.2 j e hj
    exact ⟨u, by rw [List.getElem?_set_ne z]; exact h1, h2⟩
theorem Same.set {i : Nat} {σ : L2.St} {v : Option V} : Same [i] σ (σ.set i v) := ⟨by simp, fun j hj => List.getElem?_set_ne (fun z => hj (by simp [z]))⟩
structure TgOk (X : Cx) (i : Nat) (x : Str) : Prop where
  at_ : X.N[i]? = some x
  loc : Loc X.env.scope x
  hf : X.fn x = true ∨ X.env.scope.names.lookup x = some .local
theorem assignEach_len {env : PySem.Env} : ∀ {es : List Expr} {chk : Nat → Str → Bool} {l : Tgs}, mtTgs chk l es = true → (assignEach es env).length = es.length ∧ (assignEach es env).findIdx? (·.1) = none
  | [], _, _, _ => ⟨rfl, rfl⟩
  | e :: es, chk, l, h => by
    cases l with
    | nil => cases h
    | cons g r =>
      simp only [mtTgs, Bool.and_eq_true] at h
      obtain ⟨⟨h1, h2⟩, h3⟩ := h
      obtain ⟨i1, i2⟩ := assignEach_len (env := env) h3
      have e1 : assignEach (e :: es) env = (false, assign e env) :: assignEach es env := by
        cases e <;> first | rfl | cases h1
      rw [e1]
      refine ⟨by simp [i1], ?_⟩
      rw [List.findIdx?_cons, i2]
      rfl
theorem bindTs_len : ∀ {l : Tgs} {xs : List T} {ρ ρ' : Env} {es : List Expr} {chk : Nat → Str → Bool}, bindTs l xs ρ = some ρ' → mtTgs chk l es = true → xs.length = es.length
  | .nil, xs, ρ, ρ', es, chk, h, m => by
    cases xs with
    | nil => cases es with
      | nil => rfl
      | cons _ _ => cases m
    | cons _ _ => cases h
  | .cons g r, xs, ρ, ρ', es, chk, h, m => by
    cases xs with
    | nil => cases h
    | cons x xs => cases es with
      | nil => cases m
      | cons e es =>
        simp only [mtTgs, Bool.and_eq_true] at m
        simp only [bindTs, Option.bind_eq_some_iff] at h
        obtain ⟨ρ1, _, h2⟩ := h
        simp [bindTs_len h2 m.2]
mutual
theorem snd_tg (hc : X.calm = true) (hN : X.N.Nodup) {chk : Nat → Str → Bool} (ck : ∀ i x, chk i x = true → TgOk X i x) : ∀ (g : Tg) (e : Expr), mtTg chk g e = true → PG X e (rG X.K Γ g)
  | .nm i, e, h => by
    cases e with
    | Name x p =>
      have t := ck i x h
      refine (pg_name hN t.at_ t.loc t.hf).imp fun v σ H Q ⟨c, d, ρ, ρ', a, hd, hb, q⟩ => ?_
      simp only [bindT] at hb
      split at hb
      · cases hb
        exact q _ (EnvR.set a.env hd) Same.set
      · cases hb
    | _ => cases h
  | .tp l, e, h => by
    cases e with
    | Tuple es k p =>
      have ae := assignEach_len (env := X.env) h
      refine (pg_tup hc (snd_tgs hc hN ck l es h) ae.1 ae.2).imp fun v σ H Q ⟨c, d, ρ, ρ', a, hd, hb, q⟩ => ?_
      cases d with
      | h _ => simp [bindT] at hb
      | t t =>
        cases t with
        | tup xs =>
          simp only [bindT] at hb
          have hd' : Den X.K Γ.Λ c.S (.tup xs) v := hd
          simp only [Den] at hd'
          obtain ⟨b, vs, rfl, h1, h2⟩ := hd'
          refine ⟨b, vs, rfl, .inl (.inl (a.rel.sub _ _ h1)), by rw [← h2.length]; exact bindTs_len hb h, c, xs, ρ, ρ', a, h2, hb, q⟩
        | _ => simp [bindT] at hb
    | _ => cases h
theorem snd_tgs (hc : X.calm = true) (hN : X.N.Nodup) {chk : Nat → Str → Bool} (ck : ∀ i x, chk i x = true → TgOk X i x) : ∀ (g : Tgs) (es : List Expr), mtTgs chk g es = true → PGs X es (rGs X.K Γ g)
  | .nil, es, h => by
    cases es with
    | nil =>
      refine pgs_nil.imp fun vs σ H Q ⟨c, xs, ρ, ρ', a, hd, hb, q⟩ => ?_
      cases xs with
      | nil =>
        cases hb
        exact ⟨hd, q σ a.env ⟨rfl, fun _ _ => rfl⟩⟩
      | cons _ _ => cases hb
    | cons _ _ => cases h
  | .cons g r, es, h => by
    cases es with
    | nil => cases h
    | cons e es =>
      simp only [mtTgs, Bool.and_eq_true] at h
      obtain ⟨⟨h1, h2⟩, h3⟩ := h
      have e1 : assignEach (e :: es) X.env = (false, assign e X.env) :: assignEach es X.env := by
        cases e <;> first | rfl | cases h1
      refine (pgs_cons (snd_tg hc hN ck g e h2) (snd_tgs hc hN ck r es h3) (by rw [e1]; rfl)).imp fun vs σ H Q ⟨c, xs, ρ, ρ', a, hd, hb, q⟩ => ?_
      cases xs with
      | nil => cases hb
      | cons x xs =>
        obtain ⟨v, us, rfl, d1, d2⟩ := hd
        simp only [bindTs, Option.bind_eq_some_iff] at hb
        obtain ⟨ρ1, b1, b2⟩ := hb
        refine ⟨v, us, rfl, c, .t x, ρ, ρ1, a, d1, b1, fun σ1 en s1 => ⟨c, xs, ρ1, ρ', ⟨a.rel, en⟩, d2, b2, fun σ2 en2 s2 => q σ2 en2 ⟨s2.1.trans s1.1, fun i hi => ?_⟩⟩⟩
        simp only [tgsIx, List.mem_append, not_or] at hi
        exact (s2.2 i hi.2).trans (s1.2 i hi.1)
end
end

/-! ### what is walked -/
def ItR (K : PySem.W.Frag) (Γ : Gm) (c0 : Cfg) (it : Ice.It) (J : L2.It) : Prop := ∀ (c : Cfg) (H : Hp) (i : Nat), Ext c0 c → Rel K Γ.Λ Γ.TB c H → match getI c.st i it with
  | some none => J.stop i H
  | some (some d) => J.go i H ∧ ∀ x H', J.yld i H x H' → ∃ c', After K Γ.Λ Γ.TB c H c' H' ∧ c'.st = c.st ∧ DenD K Γ.Λ c' d x
  | none => True
def rI (K : PySem.W.Frag) (Γ : Gm) (E : XK) (s : Src) : TI := fun σ H R => ∃ c ρ, At K Γ c ρ σ H ∧ WpG K Γ E (evalI Γ.P Γ.cf s ρ c.st) c H (ItR K Γ) R
section
variable {Γ : Gm} {E : XK} {X : Cx} {n : Nat} {N : List Str} {sc : Scope} {lm : Bool} {pos : Pos} {tg : Expr}
theorem ItR.mono {K : PySem.W.Frag} {c0 c1 : Cfg} {it : Ice.It} {J : L2.It} (h : ItR K Γ c0 it J) (e : Ext c0 c1) : ItR K Γ c1 it J := fun c H i e' r => h c H i (e.trans e') r
/-- a list or a tuple -/
def iSeq (K : PySem.W.Frag) (tl : TE) : TI := fun σ H R => tl σ H fun x H1 => ∃ a, x = .ref a ∧ (((∃ xs, SqL K H1 a xs) ∧ R (Itl K a) H1) ∨ ((∃ xs, SqT K H1 a xs) ∧ R (Itt K a) H1))
theorem pi_seq {l : Expr} {tl : TE} (hl : PE X l tl) : PI X tg l (iSeq X.K tl) := by
  refine ⟨fun pins s σ H R I h => ?_⟩
  refine thn (hl.run pins s σ H _ I h) fun v s1 ⟨x, H1, I1, r1, q1⟩ => ?_
  obtain ⟨a, e, ⟨⟨xs, hq⟩, q⟩ | ⟨⟨xs, hq⟩, q⟩⟩ := q1
  · subst e
    cases r1
    obtain ⟨its, rv, p, hz⟩ := I1.list hq
    refine wpAny_pyIter_list p.isList ?_
    refine ⟨s1.heap.objs.size, [s1.heap.objs.size], _, _, H1, rfl, I1.kept (t' := s1.toks) fun b o e => Heap.get?_push_of_some _ e, turn_list a _, ⟨_, Heap.get?_push_size _ rfl, rfl, rfl⟩, fun b hb => ?_, q⟩
    have e : b = s1.heap.objs.size := by simpa using hb
    subst e
    exact I1.fpOk (Nat.le_refl _) (I1.hok.fresh (Nat.le_refl _))
  · subst e
    cases r1
    obtain ⟨its, rv, p, hz⟩ := I1.tuple hq
    refine wpAny_pyIter_tuple (show s1.heap.IsTuple a its.toArray from p) ?_
    refine ⟨s1.heap.objs.size, [s1.heap.objs.size], _, _, H1, rfl, I1.kept (t' := s1.toks) fun b o e => Heap.get?_push_of_some _ e, turn_tuple a _, ⟨_, Heap.get?_push_size _ rfl, rfl, rfl⟩, fun b hb => ?_, q⟩
    have e : b = s1.heap.objs.size := by simpa using hb
    subst e
    exact I1.fpOk (Nat.le_refl _) (I1.hok.fresh (Nat.le_refl _))
/-- a still list of items -/
theorem itR_xsL {K : PySem.W.Frag} {c0 : Cfg} {l : List D} {a : Addr} {vs : List V} (hs : c0.S a = some (.lst vs)) (hd : DensD K Γ.Λ c0 l vs) : ItR K Γ c0 (.xs l) (Itl K a) := fun c H i e r => by
  have hH : H a = some (.lst vs) := r.sub _ _ (e.sub _ _ hs)
  have hd' := DensD.mono e _ _ hd
  simp only [getI]
  cases q : l[i]? with
  | none => exact ⟨vs, .inl (.inl hH), by rw [← hd'.length]; exact List.getElem?_eq_none_iff.mp q⟩
  | some d =>
    obtain ⟨v, h1, h2⟩ := hd'.get q
    refine ⟨⟨vs, v, .inl (.inl hH), h1⟩, fun x H' ⟨eH, hx⟩ => ⟨c, by rw [eH]; exact After.refl r, rfl, ?_⟩⟩
    have := hx vs (.inl (.inl hH))
    rw [h1] at this
    cases this
    exact h2
theorem itR_xsT {K : PySem.W.Frag} {c0 : Cfg} {l : List D} {a : Addr} {vs : List V} (hs : SqT K c0.S a vs) (hd : DensD K Γ.Λ c0 l vs) : ItR K Γ c0 (.xs l) (Itt K a) := fun c H i e r => by
  have hH : SqT K H a vs := SqT.mono (fun p o h => r.sub p o (e.sub p o h)) hs
  have hd' := DensD.mono e _ _ hd
  simp only [getI]
  cases q : l[i]? with
  | none => exact ⟨vs, hH, by rw [← hd'.length]; exact List.getElem?_eq_none_iff.mp q⟩
  | some d =>
    obtain ⟨v, h1, h2⟩ := hd'.get q
    refine ⟨⟨vs, v, hH, h1⟩, fun x H' ⟨eH, hx⟩ => ⟨c, by rw [eH]; exact After.refl r, rfl, ?_⟩⟩
    have := hx vs hH
    rw [h1] at this
    cases this
    exact h2
theorem itR_hl {K : PySem.W.Frag} {c0 : Cfg} {k : Nat} (hk : k < c0.st.length) : ItR K Γ c0 (.hl k) (Itl K (c0.φ k)) := fun c H i e r => by
  simp only [getI]
  cases hx : c.st[k]? with
  | none => trivial
  | some o =>
    cases o with
    | lst xs =>
      have hφ := e.phi k hk
      obtain ⟨vs, h1, h2⟩ := (r.obj k _ hx (by intro z; cases z)).1
      rw [hφ] at h1
      dsimp only
      cases q : xs[i]? with
      | none => exact ⟨vs, .inl (.inl h1), by rw [← h2.length]; exact List.getElem?_eq_none_iff.mp q⟩
      | some d =>
        obtain ⟨v, h3, h4⟩ := h2.get q
        refine ⟨⟨vs, v, .inl (.inl h1), h3⟩, fun x H' ⟨eH, hx⟩ => ⟨c, by rw [eH]; exact After.refl r, rfl, ?_⟩⟩
        have := hx vs (.inl (.inl h1))
        rw [h3] at this
        cases this
        exact h4
    | _ => trivial
theorem itI_ok {K : PySem.W.Frag} {c : Cfg} {H : Hp} {d : D} {x : V} {it : Ice.It} (r : Rel K Γ.Λ Γ.TB c H) (hd : DenD K Γ.Λ c d x) (e : itI c.st d = some it) :
    ∃ a, x = .ref a ∧ (((∃ xs, SqL K H a xs) ∧ ItR K Γ c it (Itl K a)) ∨ ((∃ xs, SqT K H a xs) ∧ ItR K Γ c it (Itt K a))) := by
  cases d with
  | t t =>
    cases t with
    | lst xs =>
      cases e
      have h : Den K Γ.Λ c.S (.lst xs) x := hd
      simp only [Den] at h
      obtain ⟨a, vs, rfl, h1, h2⟩ := h
      exact ⟨a, rfl, .inl ⟨⟨vs, .inl (.inl (r.sub _ _ h1))⟩, itR_xsL h1 (DensD.of h2)⟩⟩
    | tup xs =>
      cases e
      have h : Den K Γ.Λ c.S (.tup xs) x := hd
      simp only [Den] at h
      obtain ⟨a, vs, rfl, h1, h2⟩ := h
      exact ⟨a, rfl, .inr ⟨⟨vs, .inl (.inl (r.sub _ _ h1))⟩, itR_xsT (.inl (.inl h1)) (DensD.of h2)⟩⟩
    | wt xs =>
      cases e
      obtain ⟨a, vs, rfl, h1, h2⟩ := Dens.wt (show Den K Γ.Λ c.S (.wt xs) x from hd)
      exact ⟨a, rfl, .inr ⟨⟨vs, SqT.mono r.sub h1⟩, itR_xsT h1 (DensD.of h2)⟩⟩
    | _ => cases e
  | h k =>
    obtain ⟨hk, rfl⟩ := hd
    simp only [itI] at e
    split at e
    · rename_i xs hx
      cases e
      obtain ⟨vs, h1, h2⟩ := (r.obj k _ hx (by intro z; cases z)).1
      exact ⟨_, rfl, .inl ⟨⟨vs, .inl (.inl h1)⟩, itR_hl hk⟩⟩
    · cases e
abbrev SI (Γ : Gm) (E : XK) (X : Cx) (tg : Expr) (s : Src) (e' : Expr) : Prop := PI X tg e' (rI X.K Γ E s)
theorem snd_it {e : Ex} {e' : Expr} (h : SE Γ E X e e') : SI Γ E X tg (.it e) e' := (pi_seq h.pe).imp fun σ H Q ⟨c, ρ, a, w⟩ => by
  unfold evalI at w
  obtain ⟨c0, ρ0, a0, w0⟩ := rE.step a w
  refine ⟨c0, ρ0, a0, w0.imp fun x H1 ⟨c1, d1, b1, a1, hd1, w1⟩ => ?_⟩
  obtain ⟨it, ei, w2⟩ := Wp.opt1 w1
  obtain ⟨p, rfl, ⟨h1, h2⟩ | ⟨h1, h2⟩⟩ := itI_ok a1.rel hd1 ei
  · exact ⟨p, rfl, .inl ⟨h1, Wp.ok w2 a1.rel h2⟩⟩
  · exact ⟨p, rfl, .inr ⟨h1, Wp.ok w2 a1.rel h2⟩⟩
theorem itR_rng {K : PySem.W.Frag} {c0 : Cfg} {lo : Int} {m : Nat} : ItR K Γ c0 (.rng lo 1 m) (Itr lo m) := fun c H i e r => by
  simp only [getI]
  by_cases h : i < m
  · rw [if_pos h]
    refine ⟨h, fun x H' ⟨eH, hx⟩ => ⟨c, by rw [eH]; exact After.refl r, rfl, ?_⟩⟩
    rw [hx]
    show _ = _
    rw [Int.mul_one]
  · rw [if_neg h]
    exact Nat.le_of_not_lt h
theorem itR_rngC {K : PySem.W.Frag} {c0 : Cfg} {lo s : Int} {m : Nat} : ItR K Γ c0 (.rng lo s m) (Itc lo s m) := fun c H i e r => by
  simp only [getI]
  by_cases h : i < m
  · rw [if_pos h]
    refine ⟨h, fun x H' ⟨eH, hx⟩ => ⟨c, by rw [eH]; exact After.refl r, rfl, ?_⟩⟩
    rw [hx]
    rfl
  · rw [if_neg h]
    exact Nat.le_of_not_lt h
theorem rangeI_cases {ds : List D} {it : Ice.It} (h : rangeI ds = some it) : (∃ n : Int, ds = [.t (.int n)] ∧ (-1000000000 ≤ n ∧ n ≤ 1000000000) ∧ it = .rng 0 1 n.toNat) ∨
    (∃ a b : Int, ds = [.t (.int a), .t (.int b)] ∧ ((-1000000000 ≤ a ∧ a ≤ 1000000000) ∧ -1000000000 ≤ b ∧ b ≤ 1000000000) ∧ it = .rng a 1 (b - a).toNat) ∨
    ∃ a b : Int, ds = [.t (.int a), .t (.int b), .t (.int (-1))] ∧ ((-1000000000 ≤ a ∧ a ≤ 1000000000) ∧ -1000000000 ≤ b ∧ b ≤ 1000000000) ∧ it = .rng a (-1) (a - b).toNat := by
  unfold rangeI at h
  split at h
  · split at h
    · cases h
      exact .inl ⟨_, rfl, ‹_›, rfl⟩
    · cases h
  · split at h
    · cases h
      exact .inr (.inl ⟨_, _, rfl, ‹_›, rfl⟩)
    · cases h
  · split at h
    · rename_i hc
      cases h
      obtain ⟨rfl, hc⟩ := hc
      exact .inr (.inr ⟨_, _, rfl, hc, rfl⟩)
    · cases h
  · cases h
theorem rA.step2 {α' β' : Type} {K : PySem.W.Frag} {c : Cfg} {ρ : Env} {σ : L2.St} {H : Hp} {es : Exs} {f : List D → Store → R α'} {D' : Cfg → α' → β' → Prop} {Q : β' → Hp → Prop} (a : At K Γ c ρ σ H) (h : WpG K Γ E ((evalEs Γ.P Γ.cf es ρ c.st).bind f) c H D' Q) :
    rA K Γ E es σ H fun x H1 => ∃ c1 d, After K Γ.Λ Γ.TB c H c1 H1 ∧ At K Γ c1 ρ σ H1 ∧ DensD K Γ.Λ c1 d x ∧ evalEs Γ.P Γ.cf es ρ c.st = .ok d c1.st ∧ WpG K Γ E (f d c1.st) c1 H1 D' Q := by
  refine ⟨c, ρ, a, ?_⟩
  cases q : evalEs Γ.P Γ.cf es ρ c.st with
  | ok ds st =>
    rw [q] at h
    exact fun c' H' v b e hd => ⟨c', ds, b, a.move b, hd, by rw [e], by rw [e]; exact Wp.move h b⟩
  | ex x st => rw [q] at h; exact h
  | no => rw [q] at h; exact h
theorem len0 {ρ : Env} {st st' : Store} {ds : List D} (h : evalEs Γ.P Γ.cf .nil ρ st = .ok ds st') : ds = [] := by
  rw [evalEs] at h
  cases h
  rfl
theorem len_cons {x : Ex} {r : Exs} {ρ : Env} {st st' : Store} {ds : List D} (h : evalEs Γ.P Γ.cf (.cons x r) ρ st = .ok ds st') : ∃ d es s1, ds = d :: es ∧ evalEs Γ.P Γ.cf r ρ s1 = .ok es st' := by
  rw [evalEs] at h
  obtain ⟨d, s1, _, h⟩ := R.bind_eq_ok h
  obtain ⟨es, s2, e2, h⟩ := R.bind_eq_ok h
  cases h
  exact ⟨d, es, s1, rfl, e2⟩
theorem len1 {x : Ex} {ρ : Env} {st st' : Store} {ds : List D} (h : evalEs Γ.P Γ.cf (.cons x .nil) ρ st = .ok ds st') : ∃ d, ds = [d] := by
  obtain ⟨d, es, s1, rfl, h2⟩ := len_cons h
  rw [len0 (Γ := Γ) h2]
  exact ⟨d, rfl⟩
theorem len2 {x y : Ex} {ρ : Env} {st st' : Store} {ds : List D} (h : evalEs Γ.P Γ.cf (.cons x (.cons y .nil)) ρ st = .ok ds st') : ∃ d e, ds = [d, e] := by
  obtain ⟨d, es, s1, rfl, h2⟩ := len_cons h
  obtain ⟨e, rfl⟩ := len1 (Γ := Γ) h2
  exact ⟨d, e, rfl⟩
theorem len3 {x y z : Ex} {ρ : Env} {st st' : Store} {ds : List D} (h : evalEs Γ.P Γ.cf (.cons x (.cons y (.cons z .nil))) ρ st = .ok ds st') : ∃ d e u, ds = [d, e, u] := by
  obtain ⟨d, es, s1, rfl, h2⟩ := len_cons h
  obtain ⟨e, u, rfl⟩ := len2 (Γ := Γ) h2
  exact ⟨d, e, u, rfl⟩
theorem snd_range1 {x : Ex} {e : Expr} {p : Pos} (G : Good Γ n N sc lm X E) (hg : GlOk X.env.scope "range") (h : SA Γ E X (.cons x .nil) [e]) (hs : notStar e = true) : SI Γ E X tg (.range (.cons x .nil)) (.Call (.Name "range" p) [e] [] pos) := by
  refine (pi_range1 (X := X) hg.gl (G.lnk.blt _ (by decide)) h (by rw [star_one hs]; rfl)).imp fun σ H Q ⟨c, ρ, a, w⟩ => ?_
  unfold evalI at w
  obtain ⟨c0, ρ0, a0, w0⟩ := rA.step2 a w
  refine ⟨c0, ρ0, a0, w0.imp fun vs H1 ⟨c1, ds, b1, a1, hd, hl, w1⟩ => ?_⟩
  obtain ⟨it, ei, w2⟩ := Wp.opt1 w1
  obtain ⟨d, rfl⟩ := len1 (Γ := Γ) hl
  rcases rangeI_cases ei with ⟨m, e1, hm, rfl⟩ | ⟨u, v, e1, hm, rfl⟩ | ⟨u, v, e1, hm, rfl⟩
  · cases e1
    obtain ⟨v, rfl, hv⟩ := one_of hd
    cases hv
    exact ⟨m, rfl, by omega, by omega, Wp.ok w2 a1.rel itR_rng⟩
  · cases e1
  · cases e1
theorem snd_range2 {x y : Ex} {e e2 : Expr} {p : Pos} (G : Good Γ n N sc lm X E) (hg : GlOk X.env.scope "range") (h : SA Γ E X (.cons x (.cons y .nil)) [e, e2]) (hs : notStar e = true) (hs2 : notStar e2 = true) : SI Γ E X tg (.range (.cons x (.cons y .nil))) (.Call (.Name "range" p) [e, e2] [] pos) := by
  refine (pi_range2 (X := X) hg.gl (G.lnk.blt _ (by decide)) h (by rw [star_one hs, star_one hs2]; rfl) (by rw [star_one hs2]; rfl)).imp fun σ H Q ⟨c, ρ, a, w⟩ => ?_
  unfold evalI at w
  obtain ⟨c0, ρ0, a0, w0⟩ := rA.step2 a w
  refine ⟨c0, ρ0, a0, w0.imp fun vs H1 ⟨c1, ds, b1, a1, hd, hl, w1⟩ => ?_⟩
  obtain ⟨it, ei, w2⟩ := Wp.opt1 w1
  obtain ⟨d, d', rfl⟩ := len2 (Γ := Γ) hl
  rcases rangeI_cases ei with ⟨m, e1, hm, rfl⟩ | ⟨u, v, e1, hm, rfl⟩ | ⟨u, v, e1, hm, rfl⟩
  · cases e1
  · cases e1
    obtain ⟨v1, v2, rfl, hv1, hv2⟩ := two_of hd
    cases hv1
    cases hv2
    exact ⟨u, v, rfl, ⟨by omega, by omega, by omega, by omega⟩, Wp.ok w2 a1.rel itR_rng⟩
  · cases e1
theorem three_of {c : Cfg} {K : PySem.W.Frag} {Λ : Lay} {vs : List V} {d e f : D} (h : DensD K Λ c [d, e, f] vs) : ∃ v u w, vs = [v, u, w] ∧ DenD K Λ c d v ∧ DenD K Λ c e u ∧ DenD K Λ c f w := by
  obtain ⟨v, r, rfl, h1, h2⟩ := h
  obtain ⟨u, w, rfl, h3, h4⟩ := two_of h2
  exact ⟨v, u, w, rfl, h1, h3, h4⟩
theorem snd_range3 {x y z : Ex} {e e2 e3 : Expr} {p : Pos} (G : Good Γ n N sc lm X E) (hg : GlOk X.env.scope "range") (h : SA Γ E X (.cons x (.cons y (.cons z .nil))) [e, e2, e3]) (hs : notStar e = true) (hs2 : notStar e2 = true) (hs3 : notStar e3 = true) : SI Γ E X tg (.range (.cons x (.cons y (.cons z .nil)))) (.Call (.Name "range" p) [e, e2, e3] [] pos) := by
  refine (pi_range3 (X := X) hg.gl (G.lnk.blt _ (by decide)) h (by rw [star_one hs]) (by rw [star_one hs2, star_one hs3]; rfl)).imp fun σ H Q ⟨c, ρ, a, w⟩ => ?_
  unfold evalI at w
  obtain ⟨c0, ρ0, a0, w0⟩ := rA.step2 a w
  refine ⟨c0, ρ0, a0, w0.imp fun vs H1 ⟨c1, ds, b1, a1, hd, hl, w1⟩ => ?_⟩
  obtain ⟨it, ei, w2⟩ := Wp.opt1 w1
  obtain ⟨d, d', d'', rfl⟩ := len3 (Γ := Γ) hl
  rcases rangeI_cases ei with ⟨m, e1, hm, rfl⟩ | ⟨u, v, e1, hm, rfl⟩ | ⟨u, v, e1, hm, rfl⟩
  · cases e1
  · cases e1
  · cases e1
    obtain ⟨v1, v2, v3, rfl, hv1, hv2, hv3⟩ := three_of hd
    cases hv1
    cases hv2
    cases hv3
    exact ⟨u, v, -1, _, rfl, RgC.neg (by omega) (by omega) (by omega) (by omega), Wp.ok w2 a1.rel itR_rngC⟩
/-! ### lists that are made -/
def WpL (K : PySem.W.Frag) (Γ : Gm) (E : XK) (r : R (List D)) (c : Cfg) (H : Hp) (Q : V → Hp → Prop) : Prop := match r with
  | .ok ds st' => ∀ c' H' a vs, After K Γ.Λ Γ.TB c H c' H' → c'.st = st' → Free H a → H' a = some (.lst vs) → Loose c' H' a → DensD K Γ.Λ c' ds vs → Q (.ref a) H'
  | .ex e st' => ∀ c' H' d, After K Γ.Λ Γ.TB c H c' H' → c'.st = st' → ExnR K Γ.Λ c' H' d e → E (.ref (Γ.Λ.cA e.cls)) (some d) H'
  | .no => False
def rL (K : PySem.W.Frag) (Γ : Gm) (E : XK) (l : Fl) : TE := fun σ H Q => ∃ c ρ, At K Γ c ρ σ H ∧ WpL K Γ E (evalL Γ.P Γ.cf l ρ c.st) c H Q
theorem WpL.move {K : PySem.W.Frag} {r : R (List D)} {c c1 : Cfg} {H H1 : Hp} {Q : V → Hp → Prop} (h : WpL K Γ E r c H Q) (b : After K Γ.Λ Γ.TB c H c1 H1) : WpL K Γ E r c1 H1 Q := by
  cases r with
  | ok ds st => exact fun c' H' a vs b' e hn ha l hd => h c' H' a vs (b.trans b') e (After.free b hn) ha l hd
  | ex x st => exact fun c' H' d b' e x => h c' H' d (b.trans b') e x
  | no => exact h
/-- an expression, then a list -/
theorem WpL.bindI {α β : Type} {K : PySem.W.Frag} {c : Cfg} {H : Hp} {r : R α} {f : α → Store → R (List D)} {D : Cfg → α → β → Prop} {Q : V → Hp → Prop} (h : WpL K Γ E (r.bind f) c H Q) :
    WpG K Γ E r c H D (fun v H1 => ∃ c1 a, After K Γ.Λ Γ.TB c H c1 H1 ∧ D c1 a v ∧ r = .ok a c1.st ∧ WpL K Γ E (f a c1.st) c1 H1 Q) := by
  cases r with
  | ok x st => exact fun c' H' v b e d => ⟨c', x, b, d, by rw [e], by subst e; exact WpL.move h b⟩
  | ex x st => exact h
  | no => exact h
theorem WpL.opt {α : Type} {K : PySem.W.Frag} {c : Cfg} {H : Hp} {o : Option α} {f : α → Store → R (List D)} {Q : V → Hp → Prop} (h : WpL K Γ E ((ofOpt c.st o).bind f) c H Q) : ∃ a, o = some a ∧ WpL K Γ E (f a c.st) c H Q := by
  cases o with
  | some a => exact ⟨a, rfl, h⟩
  | none => exact h.elim
theorem WpL.opt1 {K : PySem.W.Frag} {c : Cfg} {H : Hp} {o : Option (List D)} {Q : V → Hp → Prop} (h : WpL K Γ E (ofOpt c.st o) c H Q) : ∃ a, o = some a ∧ WpL K Γ E (.ok a c.st) c H Q := by
  cases o with
  | some a => exact ⟨a, rfl, h⟩
  | none => exact h.elim
/-- the list is laid anew -/
theorem WpL.lay {K : PySem.W.Frag} {c : Cfg} {H : Hp} {ds : List D} {vs : List V} {Q : V → Hp → Prop} (h : WpL K Γ E (.ok ds c.st) c H Q) (r : Rel K Γ.Λ Γ.TB c H) (hd : DensD K Γ.Λ c ds vs) {p : Addr} (hp : H p = none) : Q (.ref p) (upd H p (.lst vs)) :=
  h c (upd H p (.lst vs)) p vs ((After.refl r).noise (Free.of hp) (loose_new r hp)) rfl (Free.of hp) upd_same ((loose_new r hp).upd rfl) hd
theorem fr_read {K : PySem.W.Frag} {l : Fl} : ∀ σ H Q, rE K Γ E (.fr l) σ H Q → rL K Γ E l σ H Q := fun σ H Q ⟨c, ρ, a, w⟩ => by
  refine ⟨c, ρ, a, ?_⟩
  unfold evalE at w
  cases q : evalL Γ.P Γ.cf l ρ c.st with
  | ok ds st =>
    rw [q] at w
    intro c' H' p vs b es hn hp l hd
    have w' : WpG K Γ E ((ofOpt st (trees ds)).bind fun xs st => (.ok (.t (.lst xs)) st : R D)) c H (DenD K Γ.Λ) Q := w
    cases et : trees ds with
    | none => rw [et] at w'; exact w'.elim
    | some xs =>
      rw [et] at w'
      have b2 := b.adoptS hn l hp
      refine w' _ _ _ b2 es ?_
      show Den _ _ _ _ _
      simp only [Den]
      exact ⟨p, vs, rfl, upd_same, Dens.mono (fun a o e => by show upd _ _ _ _ = _; rw [upd_ne (ne_of_none e l.still)]; exact e) xs vs (Dens.trees et hd)⟩
  | ex x st => rw [q] at w; exact w
  | no => rw [q] at w; exact w
theorem snd_fr {l : Fl} {e' : Expr} (hp : testPlain e' = true) (h : PE X e' (rL X.K Γ E l)) : SE Γ E X (.fr l) e' := SE.of (h.imp fr_read) hp
theorem mu_read {K : PySem.W.Frag} {l : Fl} : ∀ σ H Q, rE K Γ E (.mu l) σ H Q → rL K Γ E l σ H Q := fun σ H Q ⟨c, ρ, a, w⟩ => by
  refine ⟨c, ρ, a, ?_⟩
  unfold evalE at w
  cases q : evalL Γ.P Γ.cf l ρ c.st with
  | ok ds st =>
    rw [q] at w
    intro c' H' p vs b es hn hp l hd
    have b2 := b.adoptH hn l hp hd
    subst es
    exact w _ _ _ b2 rfl ⟨by simp, by show _ = V.ref (snoc _ _ _ _); rw [snoc_same]⟩
  | ex x st => rw [q] at w; exact w
  | no => rw [q] at w; exact w
theorem snd_mu {l : Fl} {e' : Expr} (hp : testPlain e' = true) (h : PE X e' (rL X.K Γ E l)) : SE Γ E X (.mu l) e' := SE.of (h.imp mu_read) hp
theorem snd_disp {es : Exs} {es' : List Expr} (h : SA Γ E X es es') : PE X (.List es' pos) (rL X.K Γ E (.disp es)) := (pe_lst h).imp fun σ H Q ⟨c, ρ, a, w⟩ => by
  unfold evalL at w
  refine ⟨c, ρ, a, (WpL.bindI (D := DensD X.K Γ.Λ) w).imp fun vs H1 ⟨c1, ds, b1, hd, _, w1⟩ => ?_⟩
  obtain ⟨es, e1, w2⟩ := WpL.opt1 w1
  obtain ⟨rfl, hl⟩ := few_some e1
  exact ⟨by rw [← hd.length]; exact hl, fun p hp => w2.lay b1.rel hd hp⟩
theorem snd_ofIt {e : Ex} {e' : Expr} {p : Pos} (G : Good Γ n N sc lm X E) (hg : GlOk X.env.scope "list") (h : SE Γ E X e e') (hs : notStar e' = true) : PE X (.Call (.Name "list" p) [e'] [] pos) (rL X.K Γ E (.ofIt (.it e))) := by
  refine (pe_callTy (X := X) call_list_of hg.gl (G.lnk.blt _ (by decide)) (by rfl) (snd_cons h snd_nil hs) (by decide) (by decide) (star_one hs [] X.env) (star_any (es := []) rfl)).imp fun σ H Q ⟨c, ρ, a, w⟩ => ?_
  unfold evalL evalI at w
  have w' : WpL X.K Γ E ((evalEs Γ.P Γ.cf (.cons e .nil) ρ c.st).bind fun ds st => (one ds (fun d => (itI st d).bind (allI st))).elim R.no fun xs => .ok xs st) c H Q := by
    have e1 : ((evalE Γ.P Γ.cf e ρ c.st).bind fun x st => ofOpt st (itI st x)).bind (fun it st => ofOpt st (allI st it)) = (evalEs Γ.P Γ.cf (.cons e .nil) ρ c.st).bind fun ds st => (one ds (fun d => (itI st d).bind (allI st))).elim R.no fun xs => .ok xs st := by
      simp only [evalEs]
      cases evalE Γ.P Γ.cf e ρ c.st with
      | ok d st =>
        simp only [R.bind_ok, one]
        cases itI st d with
        | none => rfl
        | some it => cases e2 : allI st it <;> simp [e2]
      | ex _ _ => rfl
      | no => rfl
    rw [← e1]
    exact w
  refine ⟨c, ρ, a, (WpL.bindI (D := DensD X.K Γ.Λ) w').imp fun vs H1 ⟨c1, ds, b1, hd, hl, w1⟩ => ?_⟩
  obtain ⟨d, rfl⟩ := len1 (Γ := Γ) hl
  obtain ⟨v, rfl, hv⟩ := one_of hd
  cases q : (itI c1.st d).bind (allI c1.st) with
  | none => simp only [one, q, Option.elim] at w1; exact w1.elim
  | some xs =>
    simp only [one, q, Option.elim] at w1
    obtain ⟨it, e1, e2⟩ := Option.bind_eq_some_iff.mp q
    have e3 : items c1.st d = some xs := by
      cases d with
      | t t => cases t <;> first | (cases e1; cases e2; rfl) | cases e1
      | h k =>
        simp only [itI] at e1
        split at e1
        · rename_i l hx
          cases e1
          simp only [allI, hx] at e2
          cases e2
          simp only [items, hx]
        · cases e1
    obtain ⟨a, ws, rfl, hq, hw⟩ := items_of b1.rel hv e3
    exact ⟨a, ws, rfl, hq.imp_right (·.1), fun l hl => w1.lay b1.rel hw hl⟩
end
end Ice
end

section
set_option autoImplicit false
set_option Elab.async false
set_option linter.all false
set_option maxRecDepth 100000
/-! Ice: enumerate over a list or a tuple. -/
namespace PySem
open Sem (wp)
set_option maxHeartbeats 1000000 in
theorem ice_meetsE {v : Value} {ob : Obj} {Hd : Heap → Prop} (B : Begins v ob Hd) :
    Meets (Builtin.«enumerate.__new__» ⟨[.type "enumerate", v], []⟩) (fun _ R sh => Hd sh.heap ∧
      R (.ok (.ret (.ref (sh.heap.push ob).objs.size))) { sh with heap := (sh.heap.push ob).push { cls := .type "enumerate", data := .fields #[.none, .bool false, .ref sh.heap.objs.size, rawInt 0, .none, .none] } }) :=
  .of_wp fun prog w A R sh hh => by
    obtain ⟨hp, gg, dd, tt, ss⟩ := sh; obtain ⟨hd, hr⟩ := hh
    have hsubE := sub_enumerate
    have itr : ∀ {A' : Around} {E : Value → Shared → Prop} {Q : Value → Shared → Prop}, Q (.ref hp.objs.size) ⟨hp.push ob, gg, dd, tt, ss⟩ → wpAny (model prog w) A' (pyIter v) Q E ⟨hp, gg, dd, tt, ss⟩ := fun q => B.iter prog w _ _ ⟨hp, gg, dd, tt, ss⟩ _ hd q
    wp_walk using itr
    refine wpAny_stack_any fun stk => wpAny_pure ?_
    split
    · rename_i cc _ _ _ _ _
      cases (cc == Value.type "enumerate")
      all_goals (wp_walk using itr; exact ⟨_, rfl, hr⟩)
    · wp_walk using itr
      exact ⟨_, rfl, hr⟩
section
variable {prog : Program} {w : World} {A : Around} {E : Value → Shared → Prop} {sh : Shared}
theorem ice_enum1 {v : Value} {ob : Obj} {Hd : Heap → Prop} {Q : Value → Shared → Prop} (B : Begins v ob Hd) (hd : Hd sh.heap)
    (hq : ∀ h1, IsEnum h1 (sh.heap.objs.size + 1) sh.heap.objs.size 0 .none → h1.get? sh.heap.objs.size = some ob → h1.objs.size = sh.heap.objs.size + 2 → (∀ b q, sh.heap.get? b = some q → h1.get? b = some q) → Q (.ref (sh.heap.objs.size + 1)) { sh with heap := h1 }) :
    wpAny (model prog w) A (call (.type "enumerate") [v]) Q E sh := by
  refine callType_new F.called_enumerate (by decide) (F.typeCall_enumerate_1 _) (F.newCall_enumerate_1 _) (fun x => F.args_object_init_2 x _) F.entry_enumerate_new (ice_meetsE B) ⟨hd, ?_⟩
  have sz : (sh.heap.push ob).objs.size = sh.heap.objs.size + 1 := Heap.size_push ..
  show _ ∧ _
  rw [sz]
  have isE : IsEnum ((sh.heap.push ob).push { cls := .type "enumerate", data := .fields #[.none, .bool false, .ref sh.heap.objs.size, rawInt 0, .none, .none] }) (sh.heap.objs.size + 1) sh.heap.objs.size 0 .none := by
    have q := Heap.get?_push_size (sh.heap.push ob) (o := { cls := .type "enumerate", data := .fields #[.none, .bool false, .ref sh.heap.objs.size, rawInt 0, .none, .none] }) rfl
    rw [sz] at q
    exact q
  refine ⟨⟨_, isE, rfl⟩, hq _ isE (Heap.get?_push_of_some _ (Heap.get?_push_size _ B.free)) (by rw [Heap.size_push, sz]) fun b q x => Heap.get?_push_of_some _ (Heap.get?_push_of_some _ x)⟩
theorem ice_enumT_end {e it l : Addr} {i : Nat} {items : Array Value} {old : Value} {Q : Option Value → Shared → Prop} (hn : A.handled = none)
    (isE : IsEnum sh.heap e it i old) (isI : sh.heap.IsTupleIter it l i) (isT : sh.heap.IsTuple l items) (hx : items[i]? = none)
    (hq : ∀ h1, Heap.ExtBut it sh.heap h1 → Q none { sh with heap := h1 }) : wpAny (model prog w) A (pyNext (.ref e)) Q E sh := by
  have ty : sh.TypeIs (.ref e) "enumerate" := ⟨_, isE, rfl⟩
  unfold pyNext
  refine wpAny_bind (wpAny_attempt (wpAny_callSpecial?_slot (name := Str.ofString "__next__") ty F.slot_enumerate_next (wpAny_call_entry F.slot_enumerate_next ty F.entry_enumerate_next ?_ (F.args_enumerate_next_1 _))))
  show wpAny _ _ (field (.ref e) 2 >>= _) _ _ _
  refine wpAny_bind (wpAny_field isE rfl (x := .ref it) rfl (wpAny_bind (RZ.nextOf_tuple_end (A := A.in1) hn isI isT hx fun h1 x he hx' => ?_)))
  obtain ⟨o1, ho1, hc1⟩ := hx'
  exact wpAny_bind (wpAny_isInstance (T := "StopIteration") (b := true) ⟨o1, ho1, hc1⟩ isSubtype_stop (wpAny_pure (hq _ he)))
end
end PySem
namespace Ice
open PySem PySem.Spec PyProof.Rows PySem.W L2
/-- the tuple at a, each item in a new pair -/
def IteT (K : PySem.W.Frag) (a : Addr) : L2.It :=
  ⟨fun i H => ∃ (ys : List V) (y : V), SqT K H a ys ∧ ys[i]? = some y, fun i H v H' => ∃ T y, v = .ref T ∧ H T = none ∧ H' = upd H T (.tup [.int (i : Nat), y]) ∧ ∀ ys, SqT K H a ys → ys[i]? = some y, fun i H => ∃ ys : List V, SqT K H a ys ∧ ys.length ≤ i⟩
theorem turn_enumT {P : Program} {w : World} {K : PySem.W.Frag} {elts : List Expr} {kk : Nat} {tpos : Pos} (a e it : Addr) (hai : a ≠ it) (hea : e ≠ a) :
    Turn P w K (.Tuple elts kk tpos) (IteT K a) [e, it] e (fun i h => (∃ old, IsEnum h e it ((i : Nat) : Int) old) ∧ h.IsTupleIter it a i ∧ e ≠ it) where
  mem := by simp
  obj := fun i h st b hb => by
    obtain ⟨⟨old, isE⟩, ⟨o1, g1, c1, d1⟩, _⟩ := st
    rcases (show b = e ∨ b = it by simpa using hb) with q | q
    · rw [q]; exact ⟨_, isE, fun v z => nomatch z⟩
    · rw [q]; exact ⟨o1, g1, fun v z => by rw [d1] at z; cases z⟩
  keep := fun i h h1 ⟨⟨old, isE⟩, isI, ne⟩ kp => ⟨⟨old, kp e (by simp) _ isE⟩, isI.at fun o1 q => kp it (by simp) o1 q, ne⟩
  item := by
    intro X hP hw hK hc i pins s σ H E I hf ⟨⟨old, isE⟩, isI, ne⟩ ⟨ys, y, hq, hy⟩
    subst hP hw hK
    obtain ⟨its, rv, isT, _⟩ := I.tuple hq
    obtain ⟨u, hu, ru⟩ := rv.get hy
    have le : e < s.heap.objs.size := Heap.lt_size isE
    have li : it < s.heap.objs.size := let ⟨_, q, _⟩ := isI; Heap.lt_size q
    have lt : i < its.toArray.size := by
      have := List.getElem?_eq_some_iff.mp hu
      simpa using this.1
    refine wpAny_pyNext_enum_itemD (Draws.tuple (A := X.A.in1) (I.ok.hd hc) it a hai its.toArray) isE ⟨isI, isT⟩ lt ne (by simp [ne, hea]) fun x h1 tk hx out ⟨isI1, isT1⟩ cellT sz kp => ?_
    have ex : x = u := by
      rw [show its.toArray[i]? = some u by simpa using hu] at hx
      exact (Option.some.inj hx).symm
    subst ex
    refine ⟨_, rfl, wpAny_letOwnedTupleGo_enum (s := { s with heap := h1, toks := tk + 1 }) out fun h2 isE2 sb => ?_⟩
    have cell2 : h2.get? s.heap.objs.size = some { cls := .type "tuple", data := .seq #[.int i tk, x] } := (sb.2 _ (Nat.ne_of_gt le)).trans cellT
    have fresh : ObjOk X.prog X.w (upd H s.heap.objs.size (.tup [.int (i : Nat), y])) h2 s.heap.objs.size (.tup [.int (i : Nat), y]) := ⟨by show 2 ≤ sizeLine; decide, [.int i tk, x], .cons ⟨_, rfl⟩ (.cons ru .nil), ⟨_, cell2, rfl, _, rfl⟩⟩
    have I1 : Inv X pins σ (upd H s.heap.objs.size (.tup [.int (i : Nat), y])) { s with heap := h2, toks := tk + 1 } :=
      I.turnedNew (ch := [e, it]) (fun b ob hb q => (sb.2 b (fun z => hb (by simp [z]))).trans (kp b ob (fun z => hb (by simp [z])) (fun z => hb (by simp [z])) q)) hf (Nat.le_refl _) fresh
    refine ⟨.ref s.heap.objs.size, _, I1, rfl, ⟨_, y, rfl, I.hok.fresh (Nat.le_refl _), rfl, fun zs hz => by rw [I.tuple_inj hz hq]; exact hy⟩, ⟨⟨x, ?_⟩, isI1.at fun o1 q => (sb.2 it (Ne.symm ne)).trans q, ne⟩, fun b hb => ?_⟩
    · rw [show ((i + 1 : Nat) : Int) = (i : Int) + 1 by omega]; exact isE2
    · have lb : b < s.heap.objs.size := by
        rcases (show b = e ∨ b = it by simpa using hb) with q | q
        · exact q ▸ le
        · exact q ▸ li
      rw [upd_ne (Nat.ne_of_lt lb)]
      exact (hf b hb).1
  done := by
    intro X hP hw hK hc i pins s σ H E I hf ⟨⟨old, isE⟩, isI, ne⟩ ⟨ys, hq, hy⟩
    subst hP hw hK
    obtain ⟨its, rv, isT, _⟩ := I.tuple hq
    obtain ⟨f0, f1, f2, f3, f4, f5⟩ := hf it (by simp)
    have ll := rv.length
    exact ice_enumT_end (I.ok.hd hc) isE isI isT (by simp; omega) fun h1 eb => ⟨rfl, I.turned (t' := s.toks) (fun b o hb q => eb b o hb q) f0 f1 f3 f4 f5⟩
  self := fun A i s Q E ⟨⟨_, isE⟩, _⟩ h => wpAny_pyIter_enum isE h
def iEnum2 (K : PySem.W.Frag) (ta : TA) : TI := fun σ H R => ta σ H fun vs H1 => ∃ a, vs = [.ref a] ∧ (((∃ xs, SqL K H1 a xs) ∧ R (Ite K a) H1) ∨ ((∃ xs, SqT K H1 a xs) ∧ R (IteT K a) H1))
theorem pi_enum2 {X : Cx} {e : Expr} {ta : TA} {p pos tpos : Pos} {elts : List Expr} {kk : Nat} (hg : Gl X "enumerate") (hm : X.mg "enumerate" = none) (ha : PA X [e] ta) (hs : starEach [e] X.env = [(false, eval e X.env)] := by rfl) :
    PI X (.Tuple elts kk tpos) (.Call (.Name "enumerate" p) [e] [] pos) (iEnum2 X.K ta) := by
  refine ⟨fun pins s σ H R I h => Call_ (ld_blt I hg hm boot_enumerate (PyProof.Rows.callWith_type1 (thn (ha.run pos pins s σ H _ I h) fun us s1 ⟨vs, H1, I1, r1, a, ex, q⟩ => ?_) hs rfl))⟩
  subst ex
  cases r1 with
  | cons r rr =>
    cases rr
    cases r
    have fp2 : ∀ b, b ∈ [s1.heap.objs.size + 1, s1.heap.objs.size] → FpOk X pins H1 b := fun b hb => by
      have hle : s1.heap.objs.size ≤ b := by
        rcases (show b = s1.heap.objs.size + 1 ∨ b = s1.heap.objs.size by simpa using hb) with z | z <;> omega
      exact I1.fpOk hle (I1.hok.fresh hle)
    rcases q with ⟨⟨xs, hq⟩, q⟩ | ⟨⟨xs, hq⟩, q⟩
    · obtain ⟨its, rv, p', hz⟩ := I1.list hq
      refine ice_enum1 (begins_list a its.toArray) p'.isList fun h1 he hit hsz kp => wpAny_pyIter_enum he ?_
      exact ⟨s1.heap.objs.size + 1, [s1.heap.objs.size + 1, s1.heap.objs.size], _, _, H1, rfl, I1.kept (t' := s1.toks) kp, turn_enum a (s1.heap.objs.size + 1) s1.heap.objs.size, ⟨⟨.none, he⟩, ⟨_, hit, rfl, rfl⟩, Nat.succ_ne_self _⟩, fp2, q⟩
    · obtain ⟨its, rv, p', _⟩ := I1.tuple hq
      have la : a < s1.heap.objs.size := let ⟨_, q, _⟩ := id p'; Heap.lt_size q
      refine ice_enum1 (begins_tuple a its.toArray) p' fun h1 he hit hsz kp => wpAny_pyIter_enum he ?_
      exact ⟨s1.heap.objs.size + 1, [s1.heap.objs.size + 1, s1.heap.objs.size], _, _, H1, rfl, I1.kept (t' := s1.toks) kp, turn_enumT a (s1.heap.objs.size + 1) s1.heap.objs.size (Nat.ne_of_lt la) (Nat.ne_of_gt (Nat.lt_succ_of_lt la)), ⟨⟨.none, he⟩, ⟨_, hit, rfl, rfl⟩, Nat.succ_ne_self _⟩, fp2, q⟩
section
variable {Γ : Gm} {E : XK} {X : Cx} {n : Nat} {N : List Str} {sc : Scope} {lm : Bool} {pos : Pos}
theorem pair_new {K : PySem.W.Frag} {c : Cfg} {H : Hp} {i : Nat} {x : T} {v : V} (r : Rel K Γ.Λ Γ.TB c H) (d : DenD K Γ.Λ c (.t x) v) {p : Addr} (hp : H p = none) :
    ∃ c', After K Γ.Λ Γ.TB c H c' (upd H p (.tup [.int (i : Nat), v])) ∧ c'.st = c.st ∧ DenD K Γ.Λ c' (.t (.tup [.int (i : Int), x])) (.ref p) := by
  have a := After.new (o := .tup [.int (i : Nat), v]) r hp (fun ⟨_, z⟩ => by cases z)
  refine ⟨_, a, rfl, ?_⟩
  show Den K Γ.Λ _ (.tup [.int (i : Int), x]) (.ref p)
  simp only [Den]
  refine ⟨p, _, rfl, upd_same, .int (i : Nat), [v], rfl, ?_, v, [], rfl, Den.mono a.sub x v d, rfl⟩
  simp only [Den]
theorem itR_enL {K : PySem.W.Frag} {c0 : Cfg} {it : Ice.It} {a : Addr} (h : ItR K Γ c0 it (Itl K a)) : ItR K Γ c0 (.en it) (Ite K a) := fun c H i e r => by
  have q := h c H i e r
  simp only [getI]
  cases g : getI c.st i it with
  | none => trivial
  | some o =>
    rw [g] at q
    cases o with
    | none => exact q
    | some d =>
      cases d with
      | h k => trivial
      | t x =>
        obtain ⟨⟨xs, y, hx, hy⟩, hq⟩ := q
        refine ⟨⟨xs, y, hx, hy⟩, fun v H' ⟨T, z, e1, hT, e2, hz⟩ => ?_⟩
        subst e1 e2
        obtain ⟨c1, a1, e1, d1⟩ := hq z H ⟨rfl, hz⟩
        obtain ⟨c2, a2, e2, d2⟩ := pair_new (Γ := Γ) (i := i) a1.rel d1 hT
        exact ⟨c2, a1.trans a2, e2.trans e1, d2⟩
theorem itR_enT {K : PySem.W.Frag} {c0 : Cfg} {it : Ice.It} {a : Addr} (h : ItR K Γ c0 it (Itt K a)) : ItR K Γ c0 (.en it) (IteT K a) := fun c H i e r => by
  have q := h c H i e r
  simp only [getI]
  cases g : getI c.st i it with
  | none => trivial
  | some o =>
    rw [g] at q
    cases o with
    | none => exact q
    | some d =>
      cases d with
      | h k => trivial
      | t x =>
        obtain ⟨⟨xs, y, hx, hy⟩, hq⟩ := q
        refine ⟨⟨xs, y, hx, hy⟩, fun v H' ⟨T, z, e1, hT, e2, hz⟩ => ?_⟩
        subst e1 e2
        obtain ⟨c1, a1, e1, d1⟩ := hq z H ⟨rfl, hz⟩
        obtain ⟨c2, a2, e2, d2⟩ := pair_new (Γ := Γ) (i := i) a1.rel d1 hT
        exact ⟨c2, a1.trans a2, e2.trans e1, d2⟩
theorem snd_enum {e : Ex} {e' : Expr} {elts : List Expr} {kk : Nat} {tpos p : Pos} (G : Good Γ n N sc lm X E) (hg : GlOk X.env.scope "enumerate") (h : SE Γ E X e e') (hs : notStar e' = true) : SI Γ E X (.Tuple elts kk tpos) (.enum e) (.Call (.Name "enumerate" p) [e'] [] pos) := by
  refine (pi_enum2 (X := X) hg.gl (G.lnk.blt _ (by decide)) (snd_cons h snd_nil hs) (by rw [star_one hs]; rfl)).imp fun σ H Q ⟨c, ρ, a, w⟩ => ?_
  unfold evalI at w
  have e1 : ((evalE Γ.P Γ.cf e ρ c.st).bind fun x st => (ofOpt st (itI st x)).bind fun i st => R.ok (It.en i) st) = (evalEs Γ.P Γ.cf (.cons e .nil) ρ c.st).bind fun ds st => (ofOpt st (one ds (itI st))).bind fun i st => R.ok (It.en i) st := by
    simp only [evalEs]
    cases evalE Γ.P Γ.cf e ρ c.st <;> rfl
  rw [e1] at w
  obtain ⟨c0, ρ0, a0, w0⟩ := rA.step2 a w
  refine ⟨c0, ρ0, a0, w0.imp fun vs H1 ⟨c1, ds, b1, a1, hd, hl, w1⟩ => ?_⟩
  obtain ⟨it, ei, w2⟩ := Wp.opt w1
  obtain ⟨d, rfl⟩ := len1 (Γ := Γ) hl
  obtain ⟨v, rfl, hv⟩ := one_of hd
  obtain ⟨q, rfl, ⟨h1, h2⟩ | ⟨h1, h2⟩⟩ := itI_ok a1.rel hv ei
  · exact ⟨q, rfl, .inl ⟨h1, Wp.ok w2 a1.rel (itR_enL h2)⟩⟩
  · exact ⟨q, rfl, .inr ⟨h1, Wp.ok w2 a1.rel (itR_enT h2)⟩⟩
end
end Ice
end

section
set_option autoImplicit false
set_option Elab.async false
set_option linter.all false
set_option maxRecDepth 100000
/-! Ice: what is starred in a display. -/
namespace Ice
open PySem PySem.Spec PyProof.Rows PySem.W L2
section
variable {Γ : Gm} {E : XK} {X : Cx} {n : Nat} {N : List Str} {sc : Scope} {lm : Bool} {pos : Pos}
theorem items_any {K : PySem.W.Frag} {c : Cfg} {H : Hp} {d : D} {v : V} {xs : List D} (r : Rel K Γ.Λ Γ.TB c H) (h : DenD K Γ.Λ c d v) (e : items c.st d = some xs) : ∃ a vs, v = .ref a ∧ (SqT K H a vs ∨ SqL K H a vs) ∧ DensD K Γ.Λ c xs vs := by
  cases d with
  | t x =>
    cases x with
    | tup ys =>
      cases e
      have h : Den K Γ.Λ c.S (.tup ys) v := h
      simp only [Den] at h
      obtain ⟨a, vs, rfl, h1, h2⟩ := h
      exact ⟨a, vs, rfl, .inl (.inl (.inl (r.sub _ _ h1))), DensD.of h2⟩
    | wt ys =>
      cases e
      obtain ⟨a, vs, rfl, h1, h2⟩ := Dens.wt (show Den K Γ.Λ c.S (.wt ys) v from h)
      exact ⟨a, vs, rfl, .inl (SqT.mono r.sub h1), DensD.of h2⟩
    | lst ys =>
      obtain ⟨a, vs, rfl, h1, h2⟩ := litems_of (TB := Γ.TB) r h (xs := ys.map .t) rfl
      cases e
      exact ⟨a, vs, rfl, .inr h1, h2⟩
    | scr ns =>
      obtain ⟨a, vs, rfl, h1, h2⟩ := litems_of (TB := Γ.TB) r h (xs := ns.map fun n => .t (.int n)) rfl
      cases e
      exact ⟨a, vs, rfl, .inr h1, h2⟩
    | _ => cases e
  | h k =>
    obtain ⟨a, vs, rfl, h1, h2⟩ := litems_of (TB := Γ.TB) r h (xs := xs) e
    exact ⟨a, vs, rfl, .inr h1, h2⟩
theorem snd_star {e : Ex} {r : Exs} {e' : Expr} {r' : List Expr} {p : Pos} (he : SE Γ E X e e') (hr : SA Γ E X r r') : SA Γ E X (.star e r) (.Starred e' p :: r') := (StX.pa_star he.pe hr).imp fun σ H Q ⟨c, ρ, a, w⟩ => by
  unfold evalEs at w
  obtain ⟨c0, ρ0, a0, w0⟩ := rE.step a w
  refine ⟨c0, ρ0, a0, w0.imp fun x H1 ⟨c1, d1, b1, a1, hd1, w1⟩ => ?_⟩
  obtain ⟨ys, e1, w2⟩ := Wp.opt w1
  obtain ⟨q, vs, rfl, hs, hv⟩ := items_any a1.rel hd1 e1
  refine ⟨q, vs, rfl, hs, ?_⟩
  obtain ⟨c0, ρ0, a0, w0⟩ := rA.step a1 w2
  exact ⟨c0, ρ0, a0, w0.imp fun xs H2 ⟨c2, ds, b2, a2, hd2, w3⟩ => Wp.ok w3 a2.rel (DensD.append (DensD.mono b2.ext _ _ hv) hd2)⟩
end
end Ice
end

section
set_option autoImplicit false
set_option Elab.async false
set_option linter.all false
set_option maxRecDepth 100000
/-! Ice: max with what it gives for an empty list. -/
namespace Ice
open PySem PySem.Spec PyProof.Rows PySem.W L2
section
variable {Γ : Gm} {E : XK} {X : Cx} {n : Nat} {N : List Str} {sc : Scope} {lm : Bool} {pos : Pos}
def rKwM (K : PySem.W.Frag) (Λ : Lay) (TB : List (Addr × Str)) (xs zs : List V) (H : Hp) (Q : VK) : Prop := ∃ x y, xs = [x] ∧ zs = [y] ∧ rMaxK K Λ TB x y H Q
theorem crk_max (G : Good Γ n N sc lm X E) : CallRK X (.builtin "max") [Str.ofString "default"] (rKwM X.K Γ.Λ Γ.TB) := by
  intro pins s σ H xs zs us ws Q I r1 r2 ⟨x, y, e1, e2, h⟩
  subst e1 e2
  cases r1 with
  | cons ra rr =>
    cases rr
    cases r2 with
    | cons rb rr =>
      cases rr
      exact cr_maxK G.calm G.units I ra rb h
theorem snd_maxk {a d : Ex} {a' d' : Expr} {p kp : Pos} (G : Good Γ n N sc lm X E) (hg : GlOk X.env.scope "max") (ha : SE Γ E X a a') (hd : SE Γ E X d d') (hs : notStar a' = true) : SE Γ E X (.bik .max a d) (.Call (.Name "max" p) [a'] [⟨some (Str.ofString "default"), d', kp⟩] pos) := by
  have mg : ∀ x ∈ bltNames, X.mg x = none := G.lnk.blt
  have st := star_one hs [] X.env
  refine SE.of (PE.imp (pe_callBK (X := X) (crk_max G) hg.gl (mg _ (by decide)) (by rfl) (pa_cons ha.pe pa_nil st) (L2.pk_cons hd.pe L2.pk_nil) (by decide) (by decide) (by rw [st]; rfl) (by rw [st]; rfl)) fun σ H Q ⟨c, ρ, a, w⟩ => ?_) rfl
  unfold evalE at w
  obtain ⟨c0, ρ0, a0, w0⟩ := rE.step a w
  refine ⟨c0, ρ0, a0, w0.imp fun x H1 ⟨c1, d1, b1, a1, hd1, w1⟩ => ?_⟩
  obtain ⟨c0, ρ0, a0, w0⟩ := rE.step a1 w1
  refine ⟨c0, ρ0, a0, w0.imp fun y H2 ⟨c2, d2, b2, a2, hd2, w2⟩ => ?_⟩
  obtain ⟨z, ez, w3⟩ := Wp.opt1 w2
  exact ⟨x, y, rfl, rfl, c2, d1, d2, z, a2.rel, DenD.mono b2.ext d1 x hd1, hd2, ez, w3.outD⟩
end
end Ice
end

section
set_option autoImplicit false
set_option Elab.async false
set_option linter.all false
set_option maxRecDepth 100000
/-! Ice: zip of two lists, of two tuples. -/
namespace Ice
open PySem PySem.Spec PyProof.Rows PySem.W L2
section
variable {Γ : Gm} {E : XK} {X : Cx} {n : Nat} {N : List Str} {sc : Scope} {lm : Bool} {pos : Pos}
theorem itI_L {K : PySem.W.Frag} {c : Cfg} {H : Hp} {d : D} {x : V} {it : Ice.It} (r : Rel K Γ.Λ Γ.TB c H) (hd : DenD K Γ.Λ c d x) (e : itI c.st d = some it) (hk : seqK c.st d = some true) : ∃ a, x = .ref a ∧ (∃ xs, SqL K H a xs) ∧ ItR K Γ c it (Itl K a) := by
  cases d with
  | t y =>
    cases y with
    | lst xs =>
      cases e
      have h : Den K Γ.Λ c.S (.lst xs) x := hd
      simp only [Den] at h
      obtain ⟨a, vs, rfl, h1, h2⟩ := h
      exact ⟨a, rfl, ⟨vs, .inl (.inl (r.sub _ _ h1))⟩, itR_xsL h1 (DensD.of h2)⟩
    | _ => cases hk
  | h k =>
    obtain ⟨hk', rfl⟩ := hd
    simp only [itI] at e
    split at e
    · rename_i xs hx
      cases e
      obtain ⟨vs, h1, h2⟩ := (r.obj k _ hx (by intro z; cases z)).1
      exact ⟨_, rfl, ⟨vs, .inl (.inl h1)⟩, itR_hl hk'⟩
    · cases e
theorem itI_T {K : PySem.W.Frag} {c : Cfg} {H : Hp} {d : D} {x : V} {it : Ice.It} (r : Rel K Γ.Λ Γ.TB c H) (hd : DenD K Γ.Λ c d x) (e : itI c.st d = some it) (hk : seqK c.st d = some false) : ∃ a, x = .ref a ∧ (∃ xs, SqT K H a xs) ∧ ItR K Γ c it (Itt K a) := by
  cases d with
  | t y =>
    cases y with
    | tup xs =>
      cases e
      have h : Den K Γ.Λ c.S (.tup xs) x := hd
      simp only [Den] at h
      obtain ⟨a, vs, rfl, h1, h2⟩ := h
      exact ⟨a, rfl, ⟨vs, .inl (.inl (r.sub _ _ h1))⟩, itR_xsT (.inl (.inl h1)) (DensD.of h2)⟩
    | wt xs =>
      cases e
      obtain ⟨a, vs, rfl, h1, h2⟩ := Dens.wt (show Den K Γ.Λ c.S (.wt xs) x from hd)
      exact ⟨a, rfl, ⟨vs, SqT.mono r.sub h1⟩, itR_xsT h1 (DensD.of h2)⟩
    | _ => cases hk
  | h k =>
    simp only [seqK] at hk
    split at hk <;> cases hk
theorem pair_new2 {K : PySem.W.Frag} {c : Cfg} {H : Hp} {x y : T} {u v : V} (r : Rel K Γ.Λ Γ.TB c H) (d : DenD K Γ.Λ c (.t x) u) (d2 : DenD K Γ.Λ c (.t y) v) {p : Addr} (hp : H p = none) :
    ∃ c', After K Γ.Λ Γ.TB c H c' (upd H p (.tup [u, v])) ∧ c'.st = c.st ∧ DenD K Γ.Λ c' (.t (.tup [x, y])) (.ref p) := by
  have a := After.new (o := .tup [u, v]) r hp (fun ⟨_, z⟩ => by cases z)
  refine ⟨_, a, rfl, ?_⟩
  show Den K Γ.Λ _ (.tup [x, y]) (.ref p)
  simp only [Den]
  exact ⟨p, _, rfl, upd_same, u, [v], rfl, Den.mono a.sub x u d, v, [], rfl, Den.mono a.sub y v d2, rfl⟩
theorem itR_zpL {K : PySem.W.Frag} {c0 : Cfg} {i j : Ice.It} {a b : Addr} (h : ItR K Γ c0 i (Itl K a)) (h' : ItR K Γ c0 j (Itl K b)) : ItR K Γ c0 (.zp i j) (Itz K a b) := fun c H k e r => by
  have q := h c H k e r
  have q' := h' c H k e r
  simp only [getI]
  cases g : getI c.st k i with
  | none => trivial
  | some o =>
    rw [g] at q
    cases g' : getI c.st k j with
    | none => cases o <;> trivial
    | some o' =>
      rw [g'] at q'
      cases o with
      | none =>
        obtain ⟨xs, hx, hl⟩ := q
        cases o' with
        | none =>
          obtain ⟨ys, hy, _⟩ := q'
          exact ⟨xs, ys, hx, hy, .inl hl⟩
        | some d' =>
          obtain ⟨⟨ys, y, hy, _⟩, _⟩ := q'
          exact ⟨xs, ys, hx, hy, .inl hl⟩
      | some d =>
        obtain ⟨⟨xs, x, hx, hxi⟩, hq⟩ := q
        cases o' with
        | none =>
          obtain ⟨ys, hy, hl⟩ := q'
          cases d <;> exact ⟨xs, ys, hx, hy, .inr hl⟩
        | some d' =>
          obtain ⟨⟨ys, y, hy, hyi⟩, hq'⟩ := q'
          cases d with
          | h _ => cases d' <;> trivial
          | t u =>
            cases d' with
            | h _ => trivial
            | t v =>
              refine ⟨⟨xs, ys, x, y, hx, hy, hxi, hyi⟩, fun w H' ⟨T, z, z', e1, hT, e2, hz, hz'⟩ => ?_⟩
              subst e1 e2
              obtain ⟨c1, a1, s1, d1⟩ := hq z H ⟨rfl, hz⟩
              have q2 := h' c1 H k (e.trans a1.ext) a1.rel
              rw [s1, g'] at q2
              obtain ⟨c2, a2, s2, d2⟩ := q2.2 z' H ⟨rfl, hz'⟩
              obtain ⟨c3, a3, s3, d3⟩ := pair_new2 (Γ := Γ) a2.rel (DenD.mono a2.ext (.t u) z d1) d2 hT
              exact ⟨c3, (a1.trans a2).trans a3, s3.trans s2, d3⟩
theorem itR_zpT {K : PySem.W.Frag} {c0 : Cfg} {i j : Ice.It} {a b : Addr} (h : ItR K Γ c0 i (Itt K a)) (h' : ItR K Γ c0 j (Itt K b)) : ItR K Γ c0 (.zp i j) (RZ.ItzT K a b) := fun c H k e r => by
  have q := h c H k e r
  have q' := h' c H k e r
  simp only [getI]
  cases g : getI c.st k i with
  | none => trivial
  | some o =>
    rw [g] at q
    cases g' : getI c.st k j with
    | none => cases o <;> trivial
    | some o' =>
      rw [g'] at q'
      cases o with
      | none =>
        obtain ⟨xs, hx, hl⟩ := q
        cases o' with
        | none =>
          obtain ⟨ys, hy, _⟩ := q'
          exact ⟨xs, ys, hx, hy, .inl hl⟩
        | some d' =>
          obtain ⟨⟨ys, y, hy, _⟩, _⟩ := q'
          exact ⟨xs, ys, hx, hy, .inl hl⟩
      | some d =>
        obtain ⟨⟨xs, x, hx, hxi⟩, hq⟩ := q
        cases o' with
        | none =>
          obtain ⟨ys, hy, hl⟩ := q'
          cases d <;> exact ⟨xs, ys, hx, hy, .inr hl⟩
        | some d' =>
          obtain ⟨⟨ys, y, hy, hyi⟩, hq'⟩ := q'
          cases d with
          | h _ => cases d' <;> trivial
          | t u =>
            cases d' with
            | h _ => trivial
            | t v =>
              refine ⟨⟨xs, ys, x, y, hx, hy, hxi, hyi⟩, fun w H' ⟨T, z, z', e1, hT, e2, hz, hz'⟩ => ?_⟩
              subst e1 e2
              obtain ⟨c1, a1, s1, d1⟩ := hq z H ⟨rfl, hz⟩
              have q2 := h' c1 H k (e.trans a1.ext) a1.rel
              rw [s1, g'] at q2
              obtain ⟨c2, a2, s2, d2⟩ := q2.2 z' H ⟨rfl, hz'⟩
              obtain ⟨c3, a3, s3, d3⟩ := pair_new2 (Γ := Γ) a2.rel (DenD.mono a2.ext (.t u) z d1) d2 hT
              exact ⟨c3, (a1.trans a2).trans a3, s3.trans s2, d3⟩
def zipF (ds : List D) (st : Store) : R Ice.It := match ds with
  | [x, y] => (ofOpt st (itI st x)).bind fun i st => (ofOpt st (itI st y)).bind fun j st => match seqK st x, seqK st y with
    | some true, some true => R.ok (It.zp i j) st
    | some false, some false => R.ok (It.zp i j) st
    | _, _ => R.no
  | _ => R.no
theorem snd_zip {e f : Ex} {e' f' : Expr} {elts : List Expr} {kk : Nat} {tpos p : Pos} (G : Good Γ n N sc lm X E) (hg : GlOk X.env.scope "zip") (h : SE Γ E X e e') (h2 : SE Γ E X f f') (hs : notStar e' = true) (hs2 : notStar f' = true) : SI Γ E X (.Tuple elts kk tpos) (.zip e f) (.Call (.Name "zip" p) [e', f'] [] pos) := by
  have s1 := star_one hs [f'] X.env
  have s2 := star_one hs2 [] X.env
  refine (RZ.pi_zipA (X := X) hg.gl (G.lnk.blt _ (by decide)) (snd_cons h (snd_cons h2 snd_nil hs2) hs) s1 (by rw [s2]; rfl)).imp fun σ H Q ⟨c, ρ, a, w⟩ => ?_
  unfold evalI at w
  have e1 : ((evalE Γ.P Γ.cf e ρ c.st).bind fun x st => (evalE Γ.P Γ.cf f ρ st).bind fun y st => zipF [x, y] st) = (evalEs Γ.P Γ.cf (.cons e (.cons f .nil)) ρ c.st).bind zipF := by
    simp only [evalEs]
    cases evalE Γ.P Γ.cf e ρ c.st with
    | ok d st =>
      simp only [R.bind_ok]
      cases evalE Γ.P Γ.cf f ρ st <;> rfl
    | ex _ _ => rfl
    | no => rfl
  have w' : WpG X.K Γ E ((evalEs Γ.P Γ.cf (.cons e (.cons f .nil)) ρ c.st).bind zipF) c H (ItR X.K Γ) Q := by
    rw [← e1]
    exact w
  obtain ⟨c0, ρ0, a0, w0⟩ := rA.step2 a w'
  refine ⟨c0, ρ0, a0, w0.imp fun vs H1 ⟨c1, ds, b1, a1, hd, hl, w1⟩ => ?_⟩
  obtain ⟨d, d2, rfl⟩ := len2 (Γ := Γ) hl
  obtain ⟨v, r, rfl, hv, hr⟩ := hd
  obtain ⟨v2, r2, rfl, hv2, hr2⟩ := hr
  have hr2 : r2 = [] := hr2
  subst hr2
  unfold zipF at w1
  obtain ⟨i, ei, w2⟩ := Wp.opt w1
  obtain ⟨j, ej, w3⟩ := Wp.opt w2
  split at w3
  · rename_i k1 k2
    obtain ⟨q, rfl, ⟨xs, hx⟩, hI⟩ := itI_L a1.rel hv ei k1
    obtain ⟨q', rfl, ⟨ys, hy⟩, hJ⟩ := itI_L a1.rel hv2 ej k2
    exact ⟨q, q', xs, ys, rfl, .inl ⟨hx, hy, Wp.ok w3 a1.rel (itR_zpL hI hJ)⟩⟩
  · rename_i k1 k2
    obtain ⟨q, rfl, ⟨xs, hx⟩, hI⟩ := itI_T a1.rel hv ei k1
    obtain ⟨q', rfl, ⟨ys, hy⟩, hJ⟩ := itI_T a1.rel hv2 ej k2
    exact ⟨q, q', xs, ys, rfl, .inr ⟨hx, hy, Wp.ok w3 a1.rel (itR_zpT hI hJ)⟩⟩
  · exact w3.elim
end
end Ice
end

section
set_option autoImplicit false
set_option Elab.async false
set_option linter.all false
set_option maxRecDepth 100000
/-! Ice: list of a range. -/
namespace Ice
open PySem PySem.Spec PyProof.Rows PySem.W L2
section
variable {Γ : Gm} {E : XK} {X : Cx} {n : Nat} {N : List Str} {sc : Scope} {lm : Bool} {pos : Pos}
theorem densD_rng {K : PySem.W.Frag} {Λ : Lay} {c : Cfg} : ∀ (l : List Nat), DensD K Λ c (l.map fun (i : Nat) => D.t (.int (0 + (i : Int) * 1))) (l.map fun i => V.int (0 + (i : Nat)))
  | [] => rfl
  | i :: l => ⟨_, _, rfl, by show V.int _ = V.int _; rw [Int.mul_one], densD_rng l⟩
theorem snd_ofRg {x : Ex} {e : Expr} {p p2 p3 : Pos} (G : Good Γ n N sc lm X E) (hg : GlOk X.env.scope "list") (hg2 : GlOk X.env.scope "range") (h : SE Γ E X x e) (hs : notStar e = true) : PE X (.Call (.Name "list" p) [.Call (.Name "range" p2) [e] [] p3] [] pos) (rL X.K Γ E (.ofIt (.range (.cons x .nil)))) := by
  refine (pe_listRg (X := X) G.calm hg.gl (G.lnk.blt _ (by decide)) (prg_1 hg2.gl (G.lnk.blt _ (by decide)) h.pe (star_one hs [] X.env))).imp fun σ H Q ⟨c, ρ, a, w⟩ => ?_
  unfold evalL evalI at w
  have w' : WpL X.K Γ E ((evalE Γ.P Γ.cf x ρ c.st).bind fun d st => (ofOpt st (rangeI [d])).bind fun it st => ofOpt st (allI st it)) c H Q := by
    have e1 : ((evalEs Γ.P Γ.cf (.cons x .nil) ρ c.st).bind fun ds st => ofOpt st (rangeI ds)).bind (fun it st => ofOpt st (allI st it)) = (evalE Γ.P Γ.cf x ρ c.st).bind fun d st => (ofOpt st (rangeI [d])).bind fun it st => ofOpt st (allI st it) := by
      simp only [evalEs]
      cases evalE Γ.P Γ.cf x ρ c.st <;> rfl
    rw [← e1]
    exact w
  refine ⟨c, ρ, a, (WpL.bindI (D := DenD X.K Γ.Λ) w').imp fun v H1 ⟨c1, d, b1, hd, _, w1⟩ => ?_⟩
  obtain ⟨it, ei, w2⟩ := WpL.opt w1
  obtain ⟨xs, ex, w3⟩ := WpL.opt1 w2
  rcases rangeI_cases ei with ⟨m, e1, hm, rfl⟩ | ⟨u, v, e1, hm, rfl⟩ | ⟨u, v, e1, hm, rfl⟩
  · cases e1
    have hv : v = V.int m := hd
    subst hv
    simp only [allI] at ex
    split at ex
    · rename_i hf
      cases ex
      have hl := fits_line hf
      rw [sizeLine_eq] at hl
      refine ⟨m, rfl, ⟨by omega, by omega, by omega, by omega, by omega⟩, fun q hq => ?_⟩
      unfold rgV
      have e0 : (m - 0).toNat = m.toNat := by rw [Int.sub_zero]
      rw [e0]
      exact w3.lay b1.rel (densD_rng _) hq
    · cases ex
  · cases e1
  · cases e1
end
end Ice
end

section
set_option Elab.async false
set_option linter.all false
set_option maxRecDepth 100000
set_option maxHeartbeats 4000000
namespace Ice
open PySem PySem.Spec PyProof.Rows PySem.W L2

abbrev EF : XK := fun _ _ _ => False
def rC (K : PySem.W.Frag) (Γ : Gm) (E : XK) (o : Ox) : TT := fun σ H Q => ∃ c ρ, At K Γ c ρ σ H ∧ WpG K Γ E (condO Γ.P Γ.cf o ρ c.st) c H dEq Q
section
variable {Γ : Gm} {E : XK} {X : Cx} {n : Nat} {N : List Str} {sc : Scope} {lm : Bool} {pos : Pos} {K : PySem.W.Frag}
theorem snd_cnone : PTs X [] (rC X.K Γ E .non) := ⟨fun pins s σ H Q I ⟨c, ρ, a, w⟩ => by
  unfold condO at w
  exact pts_nil.run pins s σ H Q I (Wp.ok (D := dEq) w a.rel rfl)⟩
theorem snd_csome {e : Ex} {e' : Expr} (h : SE Γ E X e e') : PTs X [e'] (rC X.K Γ E (.som e)) := ⟨fun pins s σ H Q I ⟨c, ρ, a, w⟩ => by
  unfold condO at w
  exact (pts_one h.pt).run pins s σ H Q I ⟨c, ρ, a, w⟩⟩
theorem wipe_get {σ : L2.St} {i : Nat} : ∀ vs : List Nat, (wipe σ vs)[i]? = if i ∈ vs then (σ[i]?).map fun _ => none else σ[i]?
  | [] => by simp [wipe]
  | v :: vs => by
    unfold wipe
    by_cases h : v = i
    · subst h
      rw [if_pos List.mem_cons_self]
      by_cases hv : v < σ.length
      · rw [List.getElem?_set_self (by rw [wipe_length]; exact hv), List.getElem?_eq_getElem hv]
        rfl
      · rw [List.getElem?_eq_none (by simp [wipe_length]; omega), List.getElem?_eq_none (by omega)]
        rfl
    · rw [List.getElem?_set_ne h, wipe_get vs]
      by_cases hm : i ∈ vs
      · rw [if_pos hm, if_pos (List.mem_cons_of_mem _ hm)]
      · rw [if_neg hm, if_neg fun z => (List.mem_cons.mp z).elim (fun q => h q.symm) hm]
theorem wipe_same {σ σ' : L2.St} {is vs : List Nat} (h : Same is (wipe σ vs) σ') (hs : ∀ i ∈ is, i ∈ vs) : wipe σ' vs = wipe σ vs := by
  apply List.ext_getElem?
  intro i
  rw [wipe_get, wipe_get]
  have hl : σ'.length = σ.length := h.1.trans (wipe_length σ vs)
  by_cases hm : i ∈ vs
  · rw [if_pos hm, if_pos hm]
    by_cases hi : i < σ.length
    · rw [List.getElem?_eq_getElem hi, List.getElem?_eq_getElem (by omega)]
      rfl
    · rw [List.getElem?_eq_none (by omega), List.getElem?_eq_none (by omega)]
  · rw [if_neg hm, if_neg hm, h.2 i fun z => hm (hs i z), wipe_get, if_neg hm]
theorem wipeE_get {ρ : Env} {i : Nat} {d : D} : ∀ {vs : List Nat}, (wipeE ρ vs)[i]? = some (some d) → ρ[i]? = some (some d) ∧ i ∉ vs
  | [], h => ⟨h, by simp⟩
  | v :: vs, h => by
    unfold wipeE at h
    by_cases e : v = i
    · subst e
      by_cases hv : v < (wipeE ρ vs).length
      · rw [List.getElem?_set_self hv] at h
        cases h
      · rw [List.getElem?_eq_none (by simp; omega)] at h
        cases h
    · rw [List.getElem?_set_ne e] at h
      obtain ⟨h1, h2⟩ := wipeE_get h
      exact ⟨h1, fun z => (List.mem_cons.mp z).elim (fun q => e q.symm) h2⟩
theorem wipeE_length (ρ : Env) : ∀ vs : List Nat, (wipeE ρ vs).length = ρ.length
  | [] => rfl
  | v :: vs => by unfold wipeE; rw [List.length_set, wipeE_length ρ vs]
theorem EnvR.wipe {K : PySem.W.Frag} {Λ : Lay} {c : Cfg} {ρ : Env} {σ : L2.St} (h : EnvR K Λ c ρ σ) (vs : List Nat) : EnvR K Λ c (wipeE ρ vs) (L2.wipe σ vs) := by
  refine ⟨by rw [wipeE_length, wipe_length, h.1], fun i d hd => ?_⟩
  obtain ⟨h1, h2⟩ := wipeE_get hd
  obtain ⟨v, h3, h4⟩ := h.2 i d h1
  exact ⟨v, by rw [wipe_get, if_neg h2]; exact h3, h4⟩
/-- the list D that grows, as it stands -/
structure Grow (K : PySem.W.Frag) (Γ : Gm) (c1 : Cfg) (H1 : Hp) (p : Addr) (acc : List D) (c : Cfg) (H : Hp) : Prop where
  aft : After K Γ.Λ Γ.TB c1 H1 c H
  loose : Loose c H p
  at_ : ∃ vs, H p = some (.lst vs) ∧ DensD K Γ.Λ c acc vs
/-- a computation in the block's turn, then the rest of the loop -/
theorem Wp.turn {α : Type} {r : R α} {f : α → Store → R (Option D)} {g : Option D → Store → R (List D)} {c1 c : Cfg} {H1 H : Hp} {Q : V → Hp → Prop} {β : Type} {Dr : Cfg → α → β → Prop} (h : WpL K Γ E ((noEx (r.bind f)).bind g) c1 H1 Q) :
    WpG K Γ EF r c H Dr (fun v H2 => ∃ c2 a, After K Γ.Λ Γ.TB c H c2 H2 ∧ Dr c2 a v ∧ WpL K Γ E ((noEx (f a c2.st)).bind g) c1 H1 Q) := by
  cases r with
  | ok a st => exact fun c' H' v b e hd => ⟨c', a, b, hd, by rw [e]; exact h⟩
  | ex _ _ => exact (show False from h).elim
  | no => exact h
theorem comp_tLc {elt : Ex} {tg : Tg} {src : Src} {cond : Ox} {own : List Nat} (hsub : ∀ i ∈ tgIx tg, i ∈ own) : ∀ σ H Q, rL K Γ E (.comp elt tg src cond own) σ H Q → tLc (rI K Γ E src) (rG K Γ tg) (rC K Γ EF cond) (rE K Γ EF elt) own σ H Q := fun σ H Q ⟨c, ρ, a, w⟩ => by
  unfold evalL at w
  refine ⟨c, ρ, a, (WpL.bindI (D := ItR K Γ) w).imp fun J H1 ⟨c1, it, b1, hJ, _, w1⟩ => ?_⟩
  intro p hp
  have a1 := a.move b1
  have ln := loose_new a1.rel hp
  refine ⟨fun i m H' => ∃ c acc, Grow K Γ c1 H1 p acc c H' ∧ WpL K Γ E (compL it (fun d st => (ofOpt st (bindT tg d (wipeE ρ own))).bind fun ρ' st => (condO Γ.P Γ.cf cond ρ' st).bind fun b st => match b with
        | true => (evalE Γ.P Γ.cf elt ρ' st).bind fun v st => .ok (some v) st
        | false => .ok none st) m i acc c.st) c1 H1 Q, ⟨lenI c1.st it, c1, [], ⟨(After.refl a1.rel).noise (Free.of hp) ln, ln.upd rfl, [], upd_same, rfl⟩, w1⟩, fun i m H' ⟨c2, acc, g, w2⟩ => ?_⟩
  have hj := hJ c2 H' i g.aft.ext g.aft.rel
  obtain ⟨accV, hp2, hacc⟩ := g.at_
  rw [compL.eq_def] at w2
  dsimp only at w2
  cases q : getI c2.st i it with
  | none => rw [q] at w2; exact w2.elim
  | some o =>
    cases o with
    | none =>
      rw [q] at w2 hj
      exact .inl ⟨hj, w2 c2 H' p accV g.aft rfl (Free.of hp) hp2 g.loose hacc⟩
    | some d =>
      rw [q] at w2 hj
      cases m with
      | zero => exact w2.elim
      | succ k =>
        refine .inr ⟨hj.1, fun H' => ∃ c acc, Grow K Γ c1 H1 p acc c H' ∧ WpL K Γ E (compL it (fun d st => (ofOpt st (bindT tg d (wipeE ρ own))).bind fun ρ' st => (condO Γ.P Γ.cf cond ρ' st).bind fun b st => match b with
          | true => (evalE Γ.P Γ.cf elt ρ' st).bind fun v st => .ok (some v) st
          | false => .ok none st) k (i + 1) acc c.st) c1 H1 Q, fun H3 h3 => ⟨k, Nat.lt_succ_self k, h3⟩, fun x H3 hy => ?_⟩
        obtain ⟨c3, b3, es3, hd3⟩ := hj.2 x H3 hy
        obtain ⟨hp3, l3⟩ := g.loose.move b3 hp2
        have a3 := (a1.move g.aft).move b3
        cases eb : bindT tg d (wipeE ρ own) with
        | none => simp only [eb, ofOpt_none, R.bind_no, noEx] at w2; exact w2.elim
        | some ρ' =>
          simp only [eb, ofOpt_some, R.bind_ok] at w2
          refine ⟨c3, d, wipeE ρ own, ρ', ⟨a3.rel, EnvR.wipe a3.env own⟩, hd3, eb, fun σ' en sm => ⟨wipe_same sm hsub, ?_⟩⟩
          rw [← es3] at w2
          refine ⟨c3, ρ', ⟨a3.rel, en⟩, (Wp.turn (Dr := dEq) (c := c3) (H := H3) w2).imp fun bb H4 ⟨c4, b', b4, hb', w4⟩ => ?_⟩
          cases hb'
          obtain ⟨hp4, l4⟩ := l3.move b4 hp3
          have g4 : Grow K Γ c1 H1 p acc c4 H4 := ⟨(g.aft.trans b3).trans b4, l4, accV, hp4, DensD.mono (b3.trans b4).ext _ _ hacc⟩
          cases bb with
          | false =>
            rw [if_neg (by decide)]
            simp only [noEx_ok, R.bind_ok, Option.toList, List.append_nil] at w4
            split at w4
            · exact ⟨c4, acc, g4, w4⟩
            · exact w4.elim
          | true =>
            rw [if_pos rfl]
            refine ⟨c4, ρ', ⟨b4.rel, EnvR.mono b4.ext en⟩, (Wp.turn (Dr := DenD K Γ.Λ) (c := c4) (H := H4) w4).imp fun y H5 ⟨c5, dv, b5, hdv, w5⟩ => ?_⟩
            obtain ⟨hp5, l5⟩ := l4.move b5 hp4
            simp only [noEx_ok, R.bind_ok, Option.toList] at w5
            split at w5
            · rename_i hf
              have hacc5 := DensD.mono ((b3.trans b4).trans b5).ext _ _ hacc
              refine ⟨accV, hp5, by rw [← hacc.length]; exact fits_lt hf, c5, acc ++ [dv], ⟨(((g.aft.trans b3).trans b4).trans b5).noise (Free.of hp) l5, l5.upd rfl, accV ++ [y], upd_same, DensD.append hacc5 ⟨y, [], rfl, hdv, rfl⟩⟩, w5⟩
            · exact w5.elim
end
end Ice
end

section
set_option Elab.async false
set_option linter.all false
set_option maxRecDepth 100000
set_option maxHeartbeats 4000000
namespace Ice
open PySem PySem.Spec PyProof.Rows PySem.W L2
section
variable {Γ : Gm} {E : XK} {X : Cx} {n : Nat} {N : List Str} {sc : Scope} {lm : Bool} {pos : Pos}
theorem Wp.then {α α' β' : Type} {K : PySem.W.Frag} {c : Cfg} {H : Hp} {r : R α} {f : α → Store → R α'} {D' : Cfg → α' → β' → Prop} {Q : β' → Hp → Prop} (h : WpG K Γ E (r.bind f) c H D' Q) : r ≠ .no := fun z => by rw [z] at h; exact h
theorem flatten_rep {α : Type} (x : α) : ∀ k : Nat, (List.replicate k [x]).flatten = List.replicate k x
  | 0 => rfl
  | k + 1 => by rw [List.replicate_succ, List.flatten_cons, flatten_rep x k, List.replicate_succ]; rfl
theorem DensD.rep {K : PySem.W.Frag} {Λ : Lay} {c : Cfg} {d : D} {v : V} (h : DenD K Λ c d v) : ∀ k : Nat, DensD K Λ c (List.replicate k d) (List.replicate k v)
  | 0 => rfl
  | k + 1 => ⟨v, _, rfl, h, DensD.rep h k⟩
theorem snd_rep {e m : Ex} {e' m' : Expr} {p1 : Pos} (he : SE Γ E X e e') (hm : SE Γ E X m m') (hs : notStar e' = true) : PE X (.BinOp (.List [e'] p1) .Mult m' pos) (rL X.K Γ E (.rep e m)) := by
  refine (pe_op op_rep (pe_lst (snd_cons he snd_nil hs)) hm.pe).imp fun σ H Q ⟨c, ρ, a, w⟩ => ?_
  unfold evalL at w
  have w' : WpL X.K Γ E ((evalEs Γ.P Γ.cf (.cons e .nil) ρ c.st).bind fun ds st => (one ds some).elim R.no fun x => (evalE Γ.P Γ.cf m ρ st).bind fun k st => match k with
    | .t (.int j) => if 0 ≤ j ∧ j ≤ 1000000 then .ok (List.replicate j.toNat x) st else .no
    | _ => .no) c H Q := by
    have e1 : ((evalEs Γ.P Γ.cf (.cons e .nil) ρ c.st).bind fun ds st => (one ds some).elim R.no fun x => (evalE Γ.P Γ.cf m ρ st).bind fun k st => match k with
      | .t (.int j) => if 0 ≤ j ∧ j ≤ 1000000 then .ok (List.replicate j.toNat x) st else .no
      | _ => (.no : R (List D))) = (evalE Γ.P Γ.cf e ρ c.st).bind fun x st => (evalE Γ.P Γ.cf m ρ st).bind fun k st => match k with
      | .t (.int j) => if 0 ≤ j ∧ j ≤ 1000000 then .ok (List.replicate j.toNat x) st else .no
      | _ => (.no : R (List D)) := by
      simp only [evalEs]
      cases evalE Γ.P Γ.cf e ρ c.st <;> rfl
    rw [e1]
    exact w
  refine ⟨c, ρ, a, (WpL.bindI (D := DensD X.K Γ.Λ) w').imp fun vs H1 ⟨c1, ds, b1, hd, hl, w1⟩ => ?_⟩
  obtain ⟨d, rfl⟩ := len1 (Γ := Γ) hl
  obtain ⟨v, rfl, hv⟩ := one_of hd
  refine ⟨by show 1 ≤ sizeLine; decide, fun p hp => ?_⟩
  have ln := loose_new b1.rel hp
  have a1 : At X.K Γ c1 ρ σ (upd H1 p (.lst [v])) := ⟨b1.rel.noise ln, EnvR.mono b1.ext a.env⟩
  have w2 : WpL X.K Γ E ((evalE Γ.P Γ.cf m ρ c1.st).bind fun k st => match k with
    | .t (.int j) => if 0 ≤ j ∧ j ≤ 1000000 then .ok (List.replicate j.toNat d) st else .no
    | _ => .no) c1 (upd H1 p (.lst [v])) Q := WpL.move w1 ((After.refl b1.rel).noise (Free.of hp) ln)
  refine ⟨c1, ρ, a1, (WpL.bindI (D := DenD X.K Γ.Λ) w2).imp fun y H2 h9 => ?_⟩
  obtain ⟨c2, dk, b2, hk, -, w3⟩ := h9
  obtain ⟨hp2, _⟩ := (ln.upd (o := .lst [v]) rfl).move b2 upd_same
  split at w3
  · split at w3
    · rename_i j hc
      cases hk
      refine ⟨p, j, [v], rfl, rfl, hp2, by omega, by omega, by show 1 * j.toNat ≤ sizeLine; rw [sizeLine_eq]; omega, fun q hq => ?_⟩
      rw [flatten_rep]
      exact w3.lay b2.rel (DensD.rep (DenD.mono b2.ext _ _ hv) _) hq
    · exact w3.elim
  · exact w3.elim
theorem snd_cat {a b : Ex} {a' b' : Expr} (ha : SE Γ E X a a') (hb : SE Γ E X b b') : PE X (.BinOp a' .Add b' pos) (rL X.K Γ E (.cat a b)) := by
  refine (pe_op op_cat ha.pe hb.pe).imp fun σ H Q ⟨c, ρ, at_, w⟩ => ?_
  unfold evalL at w
  refine ⟨c, ρ, at_, (WpL.bindI (D := DenD X.K Γ.Λ) w).imp fun x H1 h9 => ?_⟩
  obtain ⟨c1, d1, b1, hd1, -, w1⟩ := h9
  refine ⟨c1, ρ, at_.move b1, (WpL.bindI (D := DenD X.K Γ.Λ) w1).imp fun y H2 h9 => ?_⟩
  obtain ⟨c2, d2, b2, hd2, -, w2⟩ := h9
  split at w2
  · split at w2
    · rename_i xs ys hf
      have h1 : Den X.K Γ.Λ c2.S (.lst xs) x := DenD.mono b2.ext (.t (.lst xs)) x hd1
      have h2 : Den X.K Γ.Λ c2.S (.lst ys) y := hd2
      simp only [Den] at h1 h2
      obtain ⟨p, vs, rfl, e1, g1⟩ := h1
      obtain ⟨q, us, rfl, e2, g2⟩ := h2
      refine ⟨p, q, vs, us, rfl, rfl, b2.rel.sub _ _ e1, b2.rel.sub _ _ e2, by rw [← g1.length, ← g2.length]; exact fits_line hf, fun l hl => w2.lay b2.rel (DensD.of (g1.append g2)) hl⟩
    · exact w2.elim
  · exact w2.elim
theorem snd_mud : SE Γ E X .mud (.Dict [] [] pos) := by
  refine SE.of (pe_dnewT.imp fun σ H Q ⟨c, ρ, a, w⟩ p hp => ?_) rfl
  unfold evalE at w
  have b := After.alloc (ho := .dT []) (o := .dT []) a.rel hp (fun ⟨_, z⟩ => by cases z) ⟨[], rfl, rfl⟩
  exact w _ _ _ b rfl ⟨by simp, by show _ = V.ref (snoc _ _ _ _); rw [snoc_same]⟩
/-! ### isinstance -/
def tyB (P : Tab) (sc : Scope) (y : Ty) (e : Expr) : Bool := match e with
  | .Name x _ => decide (x = tyName y) && glB sc x && (match y with
    | .cls c => (P.cls c).isSome
    | _ => true)
  | _ => false
def tysB (P : Tab) (sc : Scope) : List Ty → List Expr → Bool
  | [], [] => true
  | y :: ys, e :: es => tyB P sc y e && tysB P sc ys es
  | _, _ => false
theorem pe_ty (G : Good Γ n N sc lm X E) {y : Ty} {e : Expr} (h : tyB Γ.P X.env.scope y e = true) : PE X e (tC (tyV' Γ.Λ y)) ∧ notStar e = true ∧ ∀ c, y = .cls c → (Γ.P.cls c).isSome = true := by
  cases e with
  | Name x p =>
    simp only [tyB, Bool.and_eq_true, decide_eq_true_eq] at h
    obtain ⟨⟨rfl, hg⟩, hc⟩ := h
    have hg := glB_ok hg
    refine ⟨?_, rfl, fun c e => by subst e; exact hc⟩
    cases y with
    | cls c =>
      obtain ⟨C, hC⟩ := Option.isSome_iff_exists.mp hc
      exact pe_glob hg.gl (G.lnk.clg c C hC) rfl hg.hd
    | int => exact pe_bltn hg.gl (G.lnk.blt _ (by decide)) (u := .type "int") (by rfl) rfl (by decide) (by decide)
    | bool => exact pe_bltn hg.gl (G.lnk.blt _ (by decide)) (u := .type "bool") (by rfl) rfl (by decide) (by decide)
    | str => exact pe_bltn hg.gl (G.lnk.blt _ (by decide)) (u := .type "str") (by rfl) rfl (by decide) (by decide)
    | list => exact pe_bltn hg.gl (G.lnk.blt _ (by decide)) (u := .type "list") (by rfl) rfl (by decide) (by decide)
    | tuple => exact pe_bltn hg.gl (G.lnk.blt _ (by decide)) (u := .type "tuple") (by rfl) rfl (by decide) (by decide)
    | dict => exact pe_bltn hg.gl (G.lnk.blt _ (by decide)) (u := .type "dict") (by rfl) rfl (by decide) (by decide)
  | _ => cases h
def tL (vs : List V) : TA := fun _ H Q => Q vs H
theorem pa_tys (G : Good Γ n N sc lm X E) : ∀ {ys : List Ty} {es : List Expr}, tysB Γ.P X.env.scope ys es = true → PA X es (tL (ys.map (tyV' Γ.Λ))) ∧ noStars es = true ∧ es.length = ys.length ∧ ∀ y ∈ ys, ∀ c, y = .cls c → (Γ.P.cls c).isSome = true
  | [], [], _ => ⟨pa_nil.imp fun _ _ _ q => q, rfl, rfl, fun _ h => by cases h⟩
  | y :: ys, e :: es, h => by
    simp only [tysB, Bool.and_eq_true] at h
    obtain ⟨h1, h2, h3⟩ := pe_ty G h.1
    obtain ⟨i1, i2, i3, i4⟩ := pa_tys G h.2
    refine ⟨(pa_cons h1 i1 (star_one h2 es X.env)).imp fun σ H Q q => q, ?_, by simp [i3], fun z hz => ?_⟩
    · simp only [noStars, List.all_cons, h2, Bool.true_and]
      exact i2
    · rcases List.mem_cons.mp hz with rfl | hz
      · exact h3
      · exact i4 z hz
  | [], _ :: _, h => by cases h
  | _ :: _, [], h => by cases h
theorem isi_prep {K : PySem.W.Frag} {e : Ex} {cs : List Ty} {σ : L2.St} {H : Hp} {Q : VK} (h : rE K Γ E (.isi e cs) σ H Q) : rE K Γ E e σ H fun x H1 => ∃ c d g, Rel K Γ.Λ Γ.TB c H1 ∧ DenD K Γ.Λ c d x ∧ faceD c.st d = some g ∧ tagOk Γ.P g = true ∧ Out K Γ.Λ Γ.TB c H1 (.bl (cs.any (tagIs g))) Q := by
  obtain ⟨c, ρ, a, w⟩ := h
  unfold evalE at w
  obtain ⟨c0, ρ0, a0, w0⟩ := rE.step a w
  refine ⟨c0, ρ0, a0, w0.imp fun x H1 ⟨c1, d1, b1, a1, hd1, w1⟩ => ?_⟩
  obtain ⟨g, eg, w2⟩ := Wp.opt w1
  split at w2
  · rename_i hg
    exact ⟨c1, d1, g, a1.rel, hd1, eg, hg, w2.out⟩
  · exact w2.elim
theorem tag_cs {P : Tab} {g : Tag} {cs : List String} (h : tagOk P g = true) (hc : ∀ c C, P.cls c = some C → c ∈ cs) : ∀ n, g = .cls n → n ∈ cs := fun n e => by
  subst e
  obtain ⟨C, hC⟩ := Option.isSome_iff_exists.mp h
  exact hc n C hC
theorem paired_ty {Λ : Lay} : ∀ ys : List Ty, Paired ClsV (ys.map (tyV' Λ)) (ys.map (tyVal Λ))
  | [] => .nil
  | y :: ys => .cons (tyV_cls Λ y) (paired_ty ys)
theorem isi_face {K : PySem.W.Frag} {c : Cfg} {H : Hp} {d : D} {x : V} {g : Tag} {cs : List String} {X : Cx} (hK : X.K = K) (k : KitOk X.K Γ.Λ cs) (r : Rel X.K Γ.Λ Γ.TB c H) (hd : DenD X.K Γ.Λ c d x) (e : faceD c.st d = some g) (hc : ∀ n, g = .cls n → n ∈ cs) : TyX X.K H x (tagVal Γ.Λ g) := face_ty k r hd e hc
theorem snd_isi1 {e : Ex} {y : Ty} {e' c' : Expr} {p : Pos} (G : Good Γ n N sc lm X E) (hg : GlOk X.env.scope "isinstance") (he : SE Γ E X e e') (hs : notStar e' = true) (hy : tyB Γ.P X.env.scope y c' = true) : SE Γ E X (.isi e [y]) (.Call (.Name "isinstance" p) [e', c'] [] pos) := by
  obtain ⟨h1, h2, h3⟩ := pe_ty G hy
  obtain ⟨cs, k, hcs⟩ := G.lnk.cs
  refine SE.of ((pe_callB (X := X) call_isi hg.gl (G.lnk.blt _ (by decide)) (by rfl) (pa_cons he.pe (pa_cons h1 pa_nil (star_one h2 [] X.env)) (star_one hs _ X.env)) (by decide) (by decide) (star_one hs _ X.env) (star_any (by simp [noStars, h2]))).imp fun σ H Q h => ?_) rfl
  obtain ⟨c0, ρ0, a0, w0⟩ := isi_prep h
  refine ⟨c0, ρ0, a0, w0.imp fun x H1 ⟨c, d, g, r, hd, eg, hg, q⟩ => ?_⟩
  have hc := tag_cs hg hcs
  have hy' : ∀ n, y = .cls n → n ∈ cs := fun n e => by
    obtain ⟨C, hC⟩ := Option.isSome_iff_exists.mp (h3 n e)
    exact hcs n C hC
  exact ⟨x, _, _, _, tagIs g y, rfl, tyV_cls Γ.Λ y, face_ty k r hd eg hc, k.2 g y hc hy', by have := q.here r rfl; simpa using this⟩
theorem snd_isiN {e : Ex} {ys : List Ty} {e' : Expr} {cs' : List Expr} {kk : Nat} {p p2 : Pos} (G : Good Γ n N sc lm X E) (hg : GlOk X.env.scope "isinstance") (he : SE Γ E X e e') (hs : notStar e' = true) (hy : tysB Γ.P X.env.scope ys cs' = true) (hl : decide (ys.length ≤ 1000) = true) : SE Γ E X (.isi e ys) (.Call (.Name "isinstance" p) [e', .Tuple cs' kk p2] [] pos) := by
  obtain ⟨h1, h2, h2', h3⟩ := pa_tys G hy
  obtain ⟨cs, k, hcs⟩ := G.lnk.cs
  refine SE.of ((pe_callB (X := X) call_isiT hg.gl (G.lnk.blt _ (by decide)) (by rfl) (pa_cons he.pe (pa_cons (pe_tup h1) pa_nil (star_one rfl [] X.env)) (star_one hs _ X.env)) (by decide) (by decide) (star_one hs _ X.env) (star_any (es := [.Tuple cs' kk p2]) rfl)).imp fun σ H Q h => ?_) rfl
  obtain ⟨c0, ρ0, a0, w0⟩ := isi_prep h
  refine ⟨c0, ρ0, a0, w0.imp fun x H1 ⟨c, d, g, r, hd, eg, hg, q⟩ => ?_⟩
  have hc := tag_cs hg hcs
  have hl' := of_decide_eq_true hl
  refine ⟨by rw [List.length_map, sizeLine_eq]; omega, fun t ht => ?_⟩
  have b := After.new (o := .tup (ys.map (tyV' Γ.Λ))) r ht (fun ⟨_, z⟩ => by cases z)
  refine ⟨x, t, _, _, _, _, rfl, upd_same, paired_ty ys, face_ty k b.rel (DenD.mono b.ext d x hd) eg hc, kitAny_of k hc ys fun y hy n e => ?_, ?_⟩
  · obtain ⟨C, hC⟩ := Option.isSome_iff_exists.mp (h3 y hy n e)
    exact hcs n C hC
  · exact q _ _ _ b rfl rfl
/-! ### fields -/
theorem att_ok {K : PySem.W.Frag} {c : Cfg} {H : Hp} {o d : D} {x : V} {f : String} {P : Tab} (r : Rel X.K Γ.Λ Γ.TB c H) (ho : DenD X.K Γ.Λ c o x) (e : attF Γ.P c.st o f = some d) : ∃ a C C' dx fv v, x = .ref a ∧ H a = some (.ins (Γ.Λ.cA C) dx fv) ∧ fv.lookup (Γ.Λ.fN f) = some v ∧ DenD X.K Γ.Λ c d v ∧ Γ.P.cls C = some C' ∧ f ∈ C'.flds ∧ clsD c.st o = some C := by
  unfold attF at e
  obtain ⟨C, e1, e2⟩ := Option.bind_eq_some_iff.mp e
  split at e2
  · rename_i hf
    unfold fldOk at hf
    split at hf
    · rename_i C' hC
      obtain ⟨a, C2, dx, fv, v, rfl, e3, h1, h2, h3⟩ := att_den r ho e2
      rw [e1] at e3
      cases e3
      exact ⟨a, C, C', dx, fv, v, rfl, h1, h2, h3, hC, by simpa using hf, e1⟩
    · cases hf
  · cases e2
theorem snd_att {e : Ex} {f : String} {e' : Expr} (G : Good Γ n N sc lm X E) (he : SE Γ E X e e') (hc : notCall e' = true) : SE Γ E X (.att e f) (.Attribute e' (Γ.Λ.fN f) pos) := by
  refine SE.of ((pe_fld he.pe (base_ok hc _ X.env _)).imp fun σ H Q ⟨c, ρ, a, w⟩ => ?_) rfl
  unfold evalE at w
  obtain ⟨c0, ρ0, a0, w0⟩ := rE.step a w
  refine ⟨c0, ρ0, a0, w0.imp fun x H1 ⟨c1, d1, b1, a1, hd1, w1⟩ => ?_⟩
  obtain ⟨d, ed, w2⟩ := Wp.opt1 w1
  obtain ⟨p, C, C', dx, fv, v, rfl, h1, h2, h3, h4, h5, _⟩ := att_ok (K := X.K) (P := Γ.P) a1.rel hd1 ed
  obtain ⟨cs, k, hcs⟩ := G.lnk.cs
  exact ⟨p, _, dx, fv, v, rfl, h1, (k.1 C (hcs C C' h4)).cl, G.lnk.fld C C' h4 f h5, h2, Wp.ok w2 a1.rel h3⟩
end
end Ice
end

section
set_option Elab.async false
set_option linter.all false
set_option maxRecDepth 100000
set_option maxHeartbeats 4000000
namespace Ice
open PySem PySem.Spec PyProof.Rows PySem.W L2

/-! ### a call's own store -/
structure OkKs (ks : List Nat) (st : Store) (args : List D) : Prop where
  args : ∀ d ∈ args, inKs ks d = true
  lt : ∀ k ∈ ks, k < st.length
  obj : ∀ k ∈ ks, objIn ks (st.getD k .dead) = true
  nd : ks.Nodup
theorem okKs_of {ks : List Nat} {st : Store} {args : List D} (h : okKs ks st args = true) : OkKs ks st args := by
  unfold okKs at h
  simp only [Bool.and_eq_true, List.all_eq_true, decide_eq_true_eq] at h
  exact ⟨h.1.1, fun k hk => (h.1.2 k hk).1, fun k hk => (h.1.2 k hk).2, h.2⟩
def subC (ks : List Nat) (c : Cfg) : Cfg := ⟨c.S, fun i => c.φ (ks.getD i 0), subS ks c.st⟩
section
variable {K : PySem.W.Frag} {Λ : Lay} {TB : List (Addr × Str)} {c : Cfg} {H : Hp} {ks : List Nat}
theorem idx_get {k : Nat} (h : k ∈ ks) : ks.idxOf k < ks.length ∧ ks.getD (ks.idxOf k) 0 = k := by
  have h1 := List.idxOf_lt_length_of_mem h
  refine ⟨h1, ?_⟩
  rw [List.getD_eq_getElem?_getD, List.getElem?_eq_getElem h1, Option.getD_some]
  exact List.getElem_idxOf h1
theorem subS_length (ks : List Nat) (st : Store) : (subS ks st).length = ks.length := by simp [subS]
theorem ren_den {d : D} {v : V} (h : DenD K Λ c d v) (hi : inKs ks d = true) : DenD K Λ (subC ks c) (renD ks d) v := by
  cases d with
  | t x => exact h
  | h k =>
    have hk : k ∈ ks := by simpa [inKs] using hi
    obtain ⟨h1, h2⟩ := idx_get hk
    refine ⟨by show _ < (subS ks c.st).length; rw [subS_length]; exact h1, ?_⟩
    show v = .ref (c.φ (ks.getD (ks.idxOf k) 0))
    rw [h2]
    exact h.2
theorem ren_dens : ∀ {ds : List D} {vs : List V}, DensD K Λ c ds vs → (∀ d ∈ ds, inKs ks d = true) → DensD K Λ (subC ks c) (ds.map (renD ks)) vs
  | [], vs, h, _ => h
  | d :: ds, vs, h, hi => by
    obtain ⟨v, r, rfl, h1, h2⟩ := h
    exact ⟨v, r, rfl, ren_den h1 (hi d List.mem_cons_self), ren_dens h2 fun x hx => hi x (List.mem_cons_of_mem _ hx)⟩
theorem ren_fds : ∀ {ds : List (String × D)} {vs : List (Str × V)}, DenFD K Λ c ds vs → (∀ p ∈ ds, inKs ks p.2 = true) → DenFD K Λ (subC ks c) (ds.map fun p => (p.1, renD ks p.2)) vs
  | [], vs, h, _ => h
  | d :: ds, vs, h, hi => by
    obtain ⟨v, r, rfl, h1, h2⟩ := h
    exact ⟨v, r, rfl, ren_den h1 (hi d List.mem_cons_self), ren_fds h2 fun x hx => hi x (List.mem_cons_of_mem _ hx)⟩
theorem ren_obj {o : O} {ho : Option HO} (h : ObjR K Λ c o ho) (hi : objIn ks o = true) : ObjR K Λ (subC ks c) (mapO (renD ks) o) ho := by
  cases o with
  | lst xs => obtain ⟨vs, e1, e2⟩ := h; exact ⟨vs, e1, ren_dens e2 (List.all_eq_true.mp hi)⟩
  | dT kvs => exact h
  | dK kvs => exact h
  | ins C fs => obtain ⟨dx, fv, e1, e2⟩ := h; exact ⟨dx, fv, e1, ren_fds e2 (List.all_eq_true.mp hi)⟩
  | dead => trivial
theorem mapO_dead {f : D → D} {o : O} : mapO f o = .dead ↔ o = .dead := by cases o <;> simp [mapO]
/-- an object of the sub-store -/
theorem sub_at {st : Store} {i : Nat} {o : O} (h : (subS ks st)[i]? = some o) (hl : ∀ k ∈ ks, k < st.length) : ∃ (k : Nat) (u : O), i < ks.length ∧ ks[i]? = some k ∧ ks.getD i 0 = k ∧ k ∈ ks ∧ st[k]? = some u ∧ st.getD k .dead = u ∧ o = mapO (renD ks) u := by
  unfold subS at h
  rw [List.getElem?_map] at h
  obtain ⟨k, e1, e2⟩ := Option.map_eq_some_iff.mp h
  have hk := List.mem_of_getElem? e1
  have hlt := hl k hk
  have hu : st.getD k .dead = st[k] := by rw [List.getD_eq_getElem?_getD, List.getElem?_eq_getElem hlt, Option.getD_some]
  refine ⟨k, st[k], (List.getElem?_eq_some_iff.mp e1).1, e1, ?_, hk, List.getElem?_eq_getElem hlt, hu, ?_⟩
  · rw [List.getD_eq_getElem?_getD, e1, Option.getD_some]
  · rw [← e2, hu]
theorem sub_live {st : Store} {i : Nat} (h : Live (subS ks st) i) (hl : ∀ k ∈ ks, k < st.length) : i < ks.length ∧ Live st (ks.getD i 0) := by
  obtain ⟨o, h1, h2⟩ := h
  obtain ⟨k, u, a1, a2, a3, a4, a5, a6, rfl⟩ := sub_at h1 hl
  rw [a3]
  exact ⟨a1, u, a5, fun z => h2 (mapO_dead.mpr z)⟩
theorem getD_inj {i j : Nat} (nd : ks.Nodup) (hi : i < ks.length) (hj : j < ks.length) (h : ks.getD i 0 = ks.getD j 0) : i = j := by
  rw [List.getD_eq_getElem?_getD, List.getD_eq_getElem?_getD, List.getElem?_eq_getElem hi, List.getElem?_eq_getElem hj] at h
  exact (List.getElem_inj nd).mp h
theorem getD_mem {i : Nat} (hi : i < ks.length) : ks.getD i 0 ∈ ks := by
  rw [List.getD_eq_getElem?_getD, List.getElem?_eq_getElem hi, Option.getD_some]
  exact List.getElem_mem hi
theorem sub_rel {args : List D} (r : Rel K Λ TB c H) (ok : OkKs ks c.st args) : Rel K Λ TB (subC ks c) H := by
  refine ⟨r.sub, r.not, fun i o h1 h2 => ?_, fun i j hi hj e => ?_, r.tab⟩
  · obtain ⟨k, u, a1, a2, a3, a4, a5, a6, rfl⟩ := sub_at h1 ok.lt
    obtain ⟨q1, q2⟩ := r.obj k u a5 fun z => h2 (mapO_dead.mpr z)
    have oi := ok.obj k a4
    rw [a6] at oi
    show ObjR K Λ (subC ks c) _ (H (c.φ (ks.getD i 0))) ∧ c.S (c.φ (ks.getD i 0)) = none
    rw [a3]
    exact ⟨ren_obj q1 oi, q2⟩
  · obtain ⟨hi1, hi2⟩ := sub_live hi ok.lt
    obtain ⟨hj1, hj2⟩ := sub_live hj ok.lt
    exact getD_inj ok.nd hi1 hj1 (r.inj _ _ hi2 hj2 e)
/-! ### and back -/
theorem wb_length : ∀ (ks : List Nat) (os : List O) (st : Store), (writeBack st ks os).length = st.length
  | [], _, st => by simp [writeBack]
  | _ :: _, [], st => by simp [writeBack]
  | k :: ks, o :: os, st => by rw [writeBack, wb_length ks os, List.length_set]
theorem wb_out : ∀ {ks : List Nat} {os : List O} {st : Store} {k : Nat}, k ∉ ks → (writeBack st ks os)[k]? = st[k]?
  | [], _, st, k, _ => by simp [writeBack]
  | _ :: _, [], st, k, _ => by simp [writeBack]
  | j :: ks, o :: os, st, k, h => by
    rw [writeBack, wb_out fun z => h (List.mem_cons_of_mem _ z), List.getElem?_set_ne fun z => h (by rw [z]; exact List.mem_cons_self)]
theorem wb_in : ∀ {ks : List Nat} {os : List O} {st : Store} {i : Nat} {k : Nat}, ks.Nodup → (∀ k ∈ ks, k < st.length) → ks[i]? = some k → i < os.length → (writeBack st ks os)[k]? = os[i]?
  | [], _, _, _, _, _, _, h, _ => by simp at h
  | j :: ks, [], _, _, _, _, _, _, h => by simp at h
  | j :: ks, o :: os, st, 0, k, nd, hl, h, _ => by
    simp at h
    subst h
    rw [writeBack, wb_out (List.nodup_cons.mp nd).1, List.getElem?_set_self (hl j List.mem_cons_self)]
    rfl
  | j :: ks, o :: os, st, i + 1, k, nd, hl, h, hi => by
    rw [writeBack]
    have := wb_in (st := st.set j o) (i := i) (k := k) (os := os) (List.nodup_cons.mp nd).2 (fun x hx => by rw [List.length_set]; exact hl x (List.mem_cons_of_mem _ hx)) (by simpa using h) (by simpa using hi)
    rw [this]
    simp
/-- the caller's configuration behind the call -/
def backF (ks : List Nat) (c c' : Cfg) : Nat → Addr := fun k => if k < c.st.length then c.φ k else c'.φ (ks.length + (k - c.st.length))
open Classical in
noncomputable def backH (ks : List Nat) (c' : Cfg) (H' : Hp) (fz : Bool) : Hp := fun a => match c'.S a with
  | some o => some o
  | none => if fz = true ∧ ∃ j, ks.length ≤ j ∧ Live c'.st j ∧ c'.φ j = a then H' a else none
noncomputable def backC (ks : List Nat) (c c' : Cfg) (H' : Hp) (drop fz : Bool) : Cfg := ⟨backH ks c' H' fz, backF ks c c', backS ks c.st c'.st drop⟩
variable {c' : Cfg} {H' : Hp} {drop fz : Bool}
theorem bh_sub {a : Addr} {o : HO} (h : c'.S a = some o) : backH ks c' H' fz a = some o := by
  unfold backH
  rw [h]
theorem bh_cases {a : Addr} {o : HO} (h : backH ks c' H' fz a = some o) : c'.S a = some o ∨ (c'.S a = none ∧ fz = true ∧ H' a = some o ∧ ∃ j, ks.length ≤ j ∧ Live c'.st j ∧ c'.φ j = a) := by
  unfold backH at h
  cases e : c'.S a with
  | some u => rw [e] at h; exact .inl h
  | none =>
    rw [e] at h
    dsimp only at h
    split at h
    · rename_i hc
      exact .inr ⟨rfl, hc.1, h, hc.2⟩
    · cases h
theorem bh_none {a : Addr} (h : c'.S a = none) (h2 : ¬ ∃ j, ks.length ≤ j ∧ Live c'.st j ∧ c'.φ j = a) : backH ks c' H' fz a = none := by
  unfold backH
  rw [h]
  dsimp only
  rw [if_neg fun z => h2 z.2]
theorem bs_length (drop : Bool) (st st' : Store) : (backS ks st st' drop).length = st.length + if drop = true then 0 else st'.length - ks.length := by
  unfold backS
  rw [List.length_append, wb_length]
  cases drop <;> simp
/-- the objects behind the call -/
theorem bs_at {st st' : Store} {k : Nat} {u : O} (nd : ks.Nodup) (hl : ∀ k ∈ ks, k < st.length) (hst : ks.length ≤ st'.length) (h : (backS ks st st' drop)[k]? = some u) :
    (k < st.length ∧ k ∉ ks ∧ st[k]? = some u) ∨ (k < st.length ∧ ∃ i o, ks[i]? = some k ∧ i < ks.length ∧ st'[i]? = some o ∧ u = mapO (unD ks st.length) o) ∨
    (drop = false ∧ ¬ k < st.length ∧ ∃ o, st'[ks.length + (k - st.length)]? = some o ∧ u = mapO (unD ks st.length) o) := by
  unfold backS at h
  by_cases hk : k < st.length
  · rw [List.getElem?_append_left (by rw [wb_length]; exact hk)] at h
    by_cases hm : k ∈ ks
    · obtain ⟨i, hi, e⟩ := List.mem_iff_getElem.mp hm
      have e1 : ks[i]? = some k := by rw [List.getElem?_eq_getElem hi, e]
      rw [wb_in nd hl e1 (by simp; omega)] at h
      rw [List.getElem?_map, List.getElem?_take_of_lt hi] at h
      obtain ⟨o, e2, e3⟩ := Option.map_eq_some_iff.mp h
      exact .inr (.inl ⟨hk, i, o, e1, hi, e2, e3.symm⟩)
    · rw [wb_out hm] at h
      exact .inl ⟨hk, hm, h⟩
  · rw [List.getElem?_append_right (by rw [wb_length]; omega), wb_length] at h
    cases drop with
    | true => simp at h
    | false =>
      rw [if_neg (by decide), List.getElem?_map, List.getElem?_drop] at h
      obtain ⟨o, e2, e3⟩ := Option.map_eq_some_iff.mp h
      exact .inr (.inr ⟨rfl, hk, o, e2, e3.symm⟩)
theorem un_den {d : D} {v : V} (ok : OkKs ks c.st args) (ph : ∀ i, i < ks.length → c'.φ i = c.φ (ks.getD i 0)) (hb : belowD ks.length d = true ∨ drop = false) (h : DenD K Λ c' d v) : DenD K Λ (backC ks c c' H' drop fz) (unD ks c.st.length d) v := by
  cases d with
  | t x => exact Den.mono (fun a o e => bh_sub e) x v h
  | h j =>
    obtain ⟨hj, hv⟩ := h
    show DenD K Λ _ (if j < ks.length then D.h (ks.getD j 0) else D.h (c.st.length + (j - ks.length))) v
    by_cases hlt : j < ks.length
    · rw [if_pos hlt]
      have hk := ok.lt _ (getD_mem hlt)
      refine ⟨?_, ?_⟩
      · show _ < (backS ks c.st c'.st drop).length
        rw [bs_length]
        omega
      · show v = .ref (backF ks c c' _)
        unfold backF
        rw [if_pos hk, hv, ph j hlt]
    · rw [if_neg hlt]
      have hd : drop = false := by
        rcases hb with hb | hb
        · exact absurd (of_decide_eq_true hb) hlt
        · exact hb
      subst hd
      refine ⟨?_, ?_⟩
      · show _ < (backS ks c.st c'.st false).length
        rw [bs_length, if_neg (by decide)]
        omega
      · show v = .ref (backF ks c c' _)
        unfold backF
        rw [if_neg (by omega), hv]
        have e : ks.length + (c.st.length + (j - ks.length) - c.st.length) = j := by omega
        rw [e]
theorem un_dens (ok : OkKs ks c.st args) (ph : ∀ i, i < ks.length → c'.φ i = c.φ (ks.getD i 0)) : ∀ {ds : List D} {vs : List V}, (∀ d ∈ ds, belowD ks.length d = true ∨ drop = false) → DensD K Λ c' ds vs → DensD K Λ (backC ks c c' H' drop fz) (ds.map (unD ks c.st.length)) vs
  | [], vs, _, h => h
  | d :: ds, vs, hb, h => by
    obtain ⟨v, r, rfl, h1, h2⟩ := h
    exact ⟨v, r, rfl, un_den ok ph (hb d List.mem_cons_self) h1, un_dens ok ph (fun x hx => hb x (List.mem_cons_of_mem _ hx)) h2⟩
theorem un_fds (ok : OkKs ks c.st args) (ph : ∀ i, i < ks.length → c'.φ i = c.φ (ks.getD i 0)) : ∀ {ds : List (String × D)} {vs : List (Str × V)}, (∀ p ∈ ds, belowD ks.length p.2 = true ∨ drop = false) → DenFD K Λ c' ds vs → DenFD K Λ (backC ks c c' H' drop fz) (ds.map fun p => (p.1, unD ks c.st.length p.2)) vs
  | [], vs, _, h => h
  | d :: ds, vs, hb, h => by
    obtain ⟨v, r, rfl, h1, h2⟩ := h
    exact ⟨v, r, rfl, un_den ok ph (hb d List.mem_cons_self) h1, un_fds ok ph (fun x hx => hb x (List.mem_cons_of_mem _ hx)) h2⟩
theorem un_obj {o : O} {ho : Option HO} (ok : OkKs ks c.st args) (ph : ∀ i, i < ks.length → c'.φ i = c.φ (ks.getD i 0)) (hb : belowO ks.length o = true ∨ drop = false) (h : ObjR K Λ c' o ho) : ObjR K Λ (backC ks c c' H' drop fz) (mapO (unD ks c.st.length) o) ho := by
  cases o with
  | lst xs =>
    obtain ⟨vs, e1, e2⟩ := h
    exact ⟨vs, e1, un_dens ok ph (fun d hd => hb.imp_left fun q => List.all_eq_true.mp q d hd) e2⟩
  | dT kvs => obtain ⟨vs, e1, e2⟩ := h; exact ⟨vs, e1, DenTs.mono (fun a o e => bh_sub e) kvs vs e2⟩
  | dK kvs => obtain ⟨vs, e1, e2⟩ := h; exact ⟨vs, e1, DenKs.mono (fun a o e => bh_sub e) kvs vs e2⟩
  | ins C fs =>
    obtain ⟨dx, fv, e1, e2⟩ := h
    exact ⟨dx, fv, e1, un_fds ok ph (fun d hd => hb.imp_left fun q => List.all_eq_true.mp q d hd) e2⟩
  | dead => trivial
theorem back_after {args : List D} (r : Rel K Λ TB c H) (ok : OkKs ks c.st args) (b : After K Λ TB (subC ks c) H c' H') (hdrop : drop = true → closedS ks.length c'.st = true) (hfz : fz = true → drop = true) :
    After K Λ TB c H (backC ks c c' H' drop fz) H' := by
  have len0 : (subC ks c).st.length = ks.length := subS_length ks c.st
  have hst : ks.length ≤ c'.st.length := by rw [← len0]; exact b.len
  have ph : ∀ i, i < ks.length → c'.φ i = c.φ (ks.getD i 0) := fun i hi => b.phi i (by rw [len0]; exact hi)
  have l0 : ∀ i, Live (subC ks c).st i → i < ks.length ∧ Live c.st (ks.getD i 0) := fun i h => sub_live h ok.lt
  have lv1 : ∀ i, i < ks.length → Live c'.st i → Live c.st (ks.getD i 0) := fun i hi h => (l0 i (b.liveBack (by rw [len0]; exact hi) h)).2
  have lvN : ∀ j, ks.length ≤ j → Live c'.st j → Free H (c'.φ j) := fun j hj h => b.fresh j (by rw [len0]; exact hj) h
  have bel : ∀ (i : Nat) (o : O), i < ks.length → c'.st[i]? = some o → belowO ks.length o = true ∨ drop = false := fun i o hi ho => by
    cases drop with
    | false => exact .inr rfl
    | true =>
      refine .inl (List.all_eq_true.mp (hdrop rfl) o (List.mem_of_getElem? (i := i) ?_))
      rw [List.getElem?_take_of_lt hi]
      exact ho
  -- live of the caller behind the call
  have lv2 : ∀ k, k < c.st.length → Live (backS ks c.st c'.st drop) k → Live c.st k := fun k hk ⟨u, h1, h2⟩ => by
    rcases bs_at ok.nd ok.lt hst h1 with ⟨_, _, e⟩ | ⟨_, i, o, e1, e2, e3, rfl⟩ | ⟨_, e, _⟩
    · exact ⟨u, e, h2⟩
    · have := lv1 i e2 ⟨o, e3, fun z => h2 (mapO_dead.mpr z)⟩
      rw [List.getD_eq_getElem?_getD, e1, Option.getD_some] at this
      exact this
    · exact absurd hk e
  have lv3 : ∀ k, ¬ k < c.st.length → Live (backS ks c.st c'.st drop) k → Live c'.st (ks.length + (k - c.st.length)) := fun k hk ⟨u, h1, h2⟩ => by
    rcases bs_at ok.nd ok.lt hst h1 with ⟨e, _⟩ | ⟨e, _⟩ | ⟨_, _, o, e, rfl⟩
    · exact absurd e hk
    · exact absurd e hk
    · exact ⟨o, e, fun z => h2 (mapO_dead.mpr z)⟩
  have φ1 : ∀ k, k < c.st.length → backF ks c c' k = c.φ k := fun k hk => if_pos hk
  have φ2 : ∀ k, ¬ k < c.st.length → backF ks c c' k = c'.φ (ks.length + (k - c.st.length)) := fun k hk => if_neg hk
  have sub : ∀ a o, c.S a = some o → backH ks c' H' fz a = some o := fun a o e => bh_sub (b.sub a o e)
  have ex : Ext c (backC ks c c' H' drop fz) := ⟨sub, φ1, by show _ ≤ (backS ks c.st c'.st drop).length; rw [bs_length]; omega⟩
  refine ⟨sub, φ1, ex.len, fun a o e n l => b.keep a o e n fun i hi => l _ (l0 i hi).2, b.there, fun k hk h => ?_, fun k h => ?_, fun a o e n => ?_, ⟨fun a o e => ?_, fun a ps e => ?_, fun k u h1 h2 => ?_, fun i j hi hj e => ?_, b.rel.tab⟩⟩
  · show Free H (backF ks c c' k)
    rw [φ2 k (Nat.not_lt.mpr hk)]
    exact lvN _ (by omega) (lv3 k (Nat.not_lt.mpr hk) h)
  · have hk : k < c.st.length := (List.getElem?_eq_some_iff.mp h).1
    show (backS ks c.st c'.st drop)[k]? = some .dead
    have hlen : k < (backS ks c.st c'.st drop).length := by rw [bs_length]; omega
    rw [List.getElem?_eq_getElem hlen]
    congr 1
    rcases bs_at ok.nd ok.lt hst (List.getElem?_eq_getElem hlen) with ⟨_, _, e⟩ | ⟨_, i, o, e1, e2, e3, e4⟩ | ⟨_, e, _⟩
    · rw [h] at e
      exact (Option.some.inj e).symm
    · have d0 : (subC ks c).st[i]? = some .dead := by
        show (subS ks c.st)[i]? = _
        unfold subS
        rw [List.getElem?_map, e1, Option.map_some, List.getD_eq_getElem?_getD, h]
        rfl
      have := b.dead i d0
      rw [e3] at this
      cases this
      rw [e4]
      rfl
    · exact absurd hk e
  · rcases bh_cases e with e | ⟨_, _, _, j, hj, hl, rfl⟩
    · rcases b.own a o e n with z | ⟨i, hl, z⟩
      · exact .inl z
      · exact .inr ⟨ks.getD i 0, (l0 i hl).2, z⟩
    · exact .inl (lvN j hj hl)
  · rcases bh_cases e with e | ⟨_, _, e, _⟩
    · exact b.rel.sub a o e
    · exact e
  · rcases bh_cases e with e | ⟨_, _, e, j, hj, ⟨u, hu, hn⟩, rfl⟩
    · exact b.rel.not a ps e
    · obtain ⟨w, hw, nt⟩ := ObjR.some_of (b.rel.obj j u hu hn).1 hn
      rw [hw] at e
      cases e
      exact nt ⟨ps, rfl⟩
  · show ObjR K Λ (backC ks c c' H' drop fz) u (H' (backF ks c c' k)) ∧ backH ks c' H' fz (backF ks c c' k) = none
    rcases bs_at ok.nd ok.lt hst h1 with ⟨hk, hm, e⟩ | ⟨hk, i, o, e1, e2, e3, rfl⟩ | ⟨hd, hk, o, e, rfl⟩
    · rw [φ1 k hk]
      obtain ⟨q1, q2⟩ := r.obj k u e h2
      obtain ⟨w, hw, nt⟩ := ObjR.some_of q1 h2
      have hne : ∀ i, Live (subC ks c).st i → (subC ks c).φ i ≠ c.φ k := fun i hi z => hm (by
        obtain ⟨g1, g2⟩ := l0 i hi
        rw [← r.inj _ _ g2 ⟨u, e, h2⟩ z]
        exact getD_mem g1)
      have hk' := b.keep _ w hw nt hne
      refine ⟨?_, bh_none ?_ fun ⟨j, hj, hl, z⟩ => ?_⟩
      · rw [hk', ← hw]
        exact ObjR.mono ex u _ q1
      · cases q : c'.S (c.φ k) with
        | none => rfl
        | some x =>
          rcases b.own _ x q q2 with z | ⟨i, hi, z⟩
          · exact absurd (z w hw) nt
          · exact absurd z (hne i hi)
      · exact nt (lvN j hj hl w (by rw [z]; exact hw))
    · rw [φ1 k hk]
      have hno : o ≠ .dead := fun z => h2 (mapO_dead.mpr z)
      obtain ⟨q1, q2⟩ := b.rel.obj i o e3 hno
      have ek : c'.φ i = c.φ k := by
        rw [ph i e2, List.getD_eq_getElem?_getD, e1, Option.getD_some]
      rw [ek] at q1 q2
      refine ⟨un_obj ok ph (bel i o e2 e3) q1, bh_none q2 fun ⟨j, hj, hl, z⟩ => ?_⟩
      have := b.rel.inj j i hl ⟨o, e3, hno⟩ (z.trans ek.symm)
      omega
    · rw [φ2 k hk]
      have hno : o ≠ .dead := fun z => h2 (mapO_dead.mpr z)
      obtain ⟨q1, q2⟩ := b.rel.obj _ o e hno
      refine ⟨un_obj ok ph (.inr hd) q1, ?_⟩
      have : fz = false := by
        cases fz with
        | false => rfl
        | true => rw [hfz rfl] at hd; cases hd
      subst this
      unfold backH
      rw [q2]
      simp
  · have e' : backF ks c c' i = backF ks c c' j := e
    by_cases h1 : i < c.st.length
    · by_cases h2 : j < c.st.length
      · rw [φ1 i h1, φ1 j h2] at e'
        exact r.inj i j (lv2 i h1 hi) (lv2 j h2 hj) e'
      · rw [φ1 i h1, φ2 j h2] at e'
        have q := lvN _ (by omega) (lv3 j h2 hj)
        rw [← e'] at q
        exact absurd rfl (r.free_ne q (lv2 i h1 hi))
    · by_cases h2 : j < c.st.length
      · rw [φ2 i h1, φ1 j h2] at e'
        have q := lvN _ (by omega) (lv3 i h1 hi)
        rw [e'] at q
        exact absurd rfl (r.free_ne q (lv2 j h2 hj))
      · rw [φ2 i h1, φ2 j h2] at e'
        have := b.rel.inj _ _ (lv3 i h1 hi) (lv3 j h2 hj) e'
        omega
end
end Ice
end

section
set_option Elab.async false
set_option linter.all false
set_option maxRecDepth 100000
set_option maxHeartbeats 4000000
namespace Ice
open PySem PySem.Spec PyProof.Rows PySem.W L2

section
variable {K : PySem.W.Frag} {Γ : Gm} {E : XK} {c : Cfg} {H : Hp} {ks : List Nat} {c' : Cfg} {H' : Hp} {drop fz : Bool}
theorem mapM_den {c' : Cfg} {S : Hp} {Λ : Lay} {f : D → Option T} (hf : ∀ d x v, f d = some x → DenD K Λ c' d v → Den K Λ S x v) : ∀ {ds : List D} {xs : List T} {vs : List V}, ds.mapM f = some xs → DensD K Λ c' ds vs → Dens K Λ S xs vs
  | [], xs, vs, h, hd => by
    cases h
    exact hd
  | d :: ds, xs, vs, h, hd => by
    rw [List.mapM_cons] at h
    obtain ⟨x, h1, h⟩ := Option.bind_eq_some_iff.mp h
    obtain ⟨ys, h2, h⟩ := Option.bind_eq_some_iff.mp h
    cases h
    obtain ⟨v, r, rfl, d1, d2⟩ := hd
    exact ⟨v, r, rfl, hf d x v h1 d1, mapM_den hf h2 d2⟩
theorem bh_new {j : Nat} {o : O} {Λ : Lay} {TB : List (Addr × Str)} (r : Rel K Λ TB c' H') (hj : ks.length ≤ j) (ho : c'.st[j]? = some o) (hl : o ≠ .dead) : backH ks c' H' true (c'.φ j) = H' (c'.φ j) := by
  unfold backH
  rw [(r.obj j o ho hl).2]
  dsimp only
  rw [if_pos ⟨rfl, j, hj, ⟨o, ho, hl⟩, rfl⟩]
theorem freeze_den {Λ : Lay} {TB : List (Addr × Str)} (r : Rel K Λ TB c' H') : ∀ (n : Nat) (d : D) (x : T) (v : V), freezeD ks.length c'.st n d = some x → DenD K Λ c' d v → Den K Λ (backH ks c' H' true) x v
  | n, .t y, x, v, h, hd => by
    have e : y = x := by cases n <;> exact Option.some.inj h
    subst e
    exact Den.mono (fun a o e => bh_sub e) y v hd
  | 0, .h k, x, v, h, hd => by cases h
  | n + 1, .h k, x, v, h, hd => by
    simp only [freezeD] at h
    split at h
    · cases h
    · rename_i hk
      split at h
      · rename_i xs hx
        obtain ⟨ys, e1, rfl⟩ := Option.map_eq_some_iff.mp h
        obtain ⟨_, rfl⟩ := hd
        obtain ⟨vs, h1, h2⟩ := (r.obj k _ hx (by intro z; cases z)).1
        simp only [Den]
        exact ⟨_, vs, rfl, by rw [bh_new r (by omega) hx (by intro z; cases z)]; exact h1, mapM_den (fun d x v => freeze_den r n d x v) e1 h2⟩
      · cases h
/-- the caller's wish, told of the callee's own store -/
theorem callD0_ok {args : List D} {vs : List V} {f : String} {Q : V → Hp → Prop} (r : Rel K Γ.Λ Γ.TB c H) (hd : DensD K Γ.Λ c args vs) (w : WpG K Γ E (callD0 Γ.cf f args c.st) c H (DenD K Γ.Λ) Q) : spI K Γ f args.length vs H Q E := by
  unfold callD0 at w
  dsimp only at w
  split at w
  · exact w.elim
  · rename_i hk
    have ok := okKs_of (by simpa using hk)
    refine ⟨subC (reach c.st args) c, args.map (renD (reach c.st args)), sub_rel r ok, ren_dens hd ok.args, by simp, ?_⟩
    show WpG K Γ E (Γ.cf f _ (subS (reach c.st args) c.st)) _ _ _ _
    have len0 : (subC (reach c.st args) c).st.length = (reach c.st args).length := subS_length _ _
    cases q : Γ.cf f (args.map (renD (reach c.st args))) (subS (reach c.st args) c.st) with
    | no => rw [q] at w; exact w
    | ex e st' =>
      rw [q] at w
      dsimp only at w
      split at w
      · rename_i hcl
        intro c' H' d b es ⟨fv, x1, x2⟩
        subst es
        exact w _ H' d (back_after (drop := true) (fz := false) r ok b (fun _ => hcl) (by simp)) rfl ⟨fv, x1, DenFs.mono (fun a o e => bh_sub e) _ _ x2⟩
      · exact w.elim
    | ok d st' =>
      rw [q] at w
      dsimp only at w
      intro c' H' v b es hv
      subst es
      have ph : ∀ i, i < (reach c.st args).length → c'.φ i = c.φ ((reach c.st args).getD i 0) := fun i hi => b.phi i (by rw [len0]; exact hi)
      unfold giveBack at w
      split at w
      · refine w _ H' v (back_after (drop := closedS _ c'.st) (fz := false) r ok b id (by simp)) rfl ?_
        exact Den.mono (fun a o e => bh_sub e) _ v hv
      · rename_i i
        split at w
        · rename_i hi
          refine w _ H' v (back_after (drop := closedS _ c'.st) (fz := false) r ok b id (by simp)) rfl ?_
          have h9 := un_den (d := .h i) (H' := H') (drop := closedS (reach c.st args).length c'.st) (fz := false) ok ph (.inl (by show decide (i < _) = true; exact decide_eq_true hi)) hv
          have e9 : unD (reach c.st args) c.st.length (.h i) = .h ((reach c.st args).getD i 0) := if_pos hi
          rw [e9] at h9
          exact h9
        · split at w
          · rename_i x hx
            split at w
            · rename_i hcl
              exact w _ H' v (back_after (drop := true) (fz := true) r ok b (fun _ => hcl) (fun _ => rfl)) rfl (freeze_den b.rel 3 _ x v hx hv)
            · exact w.elim
          · refine w _ H' v (back_after (drop := false) (fz := false) r ok b (by simp) (by simp)) rfl ?_
            exact un_den (H' := H') (drop := false) (fz := false) ok ph (.inr rfl) hv
theorem freezeFs_den {S : Hp} {Λ : Lay} (hs : ∀ a o, c'.S a = some o → S a = some o) : ∀ {fs : List (String × D)} {gs : List (String × T)} {fv : List (Str × V)}, freezeFs fs = some gs → DenFD K Λ c' fs fv → DenFs K Λ S gs fv
  | [], gs, fv, h, hd => by cases h; exact hd
  | (f, .t x) :: r, gs, fv, h, hd => by
    obtain ⟨hs', e1, rfl⟩ := Option.map_eq_some_iff.mp (show (freezeFs r).map ((f, x) :: ·) = some gs from h)
    obtain ⟨v, q, rfl, d1, d2⟩ := hd
    exact ⟨v, q, rfl, Den.mono hs x v d1, freezeFs_den hs e1 d2⟩
  | (_, .h _) :: _, gs, fv, h, hd => by cases h
/-- .. of a class called -/
theorem newD0_ok {args : List D} {vs : List V} {cl : String} {C : ClsR} {Q : V → Hp → Prop} (r : Rel K Γ.Λ Γ.TB c H) (hd : DensD K Γ.Λ c args vs) (w : WpG K Γ E (newD0 Γ.cf cl C args c.st) c H (DenD K Γ.Λ) Q) :
    ∀ x dx, H x = none → H dx = none → dx ≠ x → spI K Γ C.init (args.length + 1) (.ref x :: vs) (upd (upd H dx (.own x)) x (.ins (Γ.Λ.cA cl) dx [])) (fun v H2 => v = .non ∧ Q (.ref x) H2) E := by
  intro x dx hx hdx hne
  unfold newD0 at w
  dsimp only at w
  split at w
  · exact w.elim
  · rename_i hk
    have ok := okKs_of (by simpa using hk)
    have sr := sub_rel r ok
    have len0 : (subC (reach c.st args) c).st.length = (reach c.st args).length := subS_length _ _
    have ldx := loose_new sr hdx
    have b1 := (After.refl sr).noise (o := .own x) (Free.of hdx) ldx
    have hx1 : (upd H dx (.own x)) x = none := by rw [upd_ne (Ne.symm hne)]; exact hx
    have b2 := After.alloc (ho := .ins (Γ.Λ.cA cl) dx []) (o := .ins cl []) b1.rel hx1 (fun ⟨_, z⟩ => by cases z) ⟨dx, [], rfl, rfl⟩
    have b0 := b1.trans b2
    refine ⟨_, .h (reach c.st args).length :: args.map (renD (reach c.st args)), b2.rel, ⟨.ref x, vs, rfl, ⟨by simp [len0], by show V.ref x = .ref (snoc _ _ _ _); rw [len0, snoc_same]⟩, DensD.mono b2.ext _ _ (ren_dens hd ok.args)⟩, by simp, ?_⟩
    show WpG K Γ E (Γ.cf C.init _ (subS (reach c.st args) c.st ++ [.ins cl []])) _ _ _ _
    have φm : ∀ (c' : Cfg) (H' : Hp), After K Γ.Λ Γ.TB ⟨(subC (reach c.st args) c).S, snoc (subC (reach c.st args) c).φ (subC (reach c.st args) c).st.length x, (subC (reach c.st args) c).st ++ [O.ins cl []]⟩ (upd (upd H dx (.own x)) x (.ins (Γ.Λ.cA cl) dx [])) c' H' → c'.φ (reach c.st args).length = x := fun c' H' b => by
      rw [b.phi _ (by simp [len0])]
      show snoc _ _ _ _ = x
      rw [len0, snoc_same]
    cases q : Γ.cf C.init (.h (reach c.st args).length :: args.map (renD (reach c.st args))) (subS (reach c.st args) c.st ++ [.ins cl []]) with
    | no => rw [q] at w; exact w
    | ex e st' =>
      rw [q] at w
      dsimp only at w
      split at w
      · rename_i hcl
        intro c' H' d b es ⟨fv, x1, x2⟩
        subst es
        exact w _ H' d (back_after (drop := true) (fz := false) r ok (b0.trans b) (fun _ => hcl) (by simp)) rfl ⟨fv, x1, DenFs.mono (fun a o e => bh_sub e) _ _ x2⟩
      · exact w.elim
    | ok d st' =>
      have hd : d = .t .non := by
        cases d with
        | t t => cases t <;> first | rfl | (rw [q] at w; exact w.elim)
        | h k => rw [q] at w; exact w.elim
      subst hd
      rw [q] at w
      dsimp only at w
      intro c' H' v b es hv
      subst es
      have eφ := φm c' H' b
      · refine ⟨hv, ?_⟩
        split at w
        · rename_i hcl
          split at w
          · split at w
            · rename_i c2 fs hst
              split at w
              · rename_i ec
                subst ec
                split at w
                · rename_i gs hg
                  obtain ⟨dx', fv, h1, h2⟩ := (b.rel.obj _ _ hst (by intro z; cases z)).1
                  refine w _ H' (.ref x) (back_after (drop := true) (fz := true) r ok (b0.trans b) (fun _ => hcl) (fun _ => rfl)) rfl ?_
                  show Den _ _ _ _ _
                  simp only [Den]
                  refine ⟨x, dx', fv, rfl, ?_, freezeFs_den (fun a o e => bh_sub e) hg h2⟩
                  show backH _ c' H' true x = _
                  rw [← eφ, bh_new b.rel (Nat.le_refl _) hst (by intro z; cases z)]
                  exact h1
                · exact w.elim
              · exact w.elim
            · exact w.elim
          · refine w _ H' (.ref x) (back_after (drop := false) (fz := false) r ok (b0.trans b) (by simp) (by simp)) rfl ?_
            refine ⟨?_, ?_⟩
            · show _ < (backS _ c.st c'.st false).length
              rw [bs_length, if_neg (by decide)]
              have := b.len
              simp only [List.length_append, len0, List.length_singleton] at this
              omega
            · show V.ref x = .ref (backF _ c c' _)
              unfold backF
              rw [if_neg (by omega), Nat.sub_self, Nat.add_zero, eφ]
        · exact w.elim
end
end Ice
end

section
set_option Elab.async false
set_option linter.all false
set_option maxRecDepth 100000
set_option maxHeartbeats 4000000
namespace Ice
open PySem PySem.Spec PyProof.Rows PySem.W L2

section
variable {Γ : Gm} {E : XK} {X : Cx} {n : Nat} {N : List Str} {sc : Scope} {lm : Bool} {pos : Pos}
theorem Good.passes (G : Good Γ n N sc lm X E) : Passes (CX X.prog X.w) X E := passes_call G.tk fun cls d σ H h => h
theorem Good.room0 (G : Good Γ n N sc lm X E) : Room (lev n + 1) X.A := G.room.mono (by split <;> omega)
theorem fill_some {F : Fn} {args ds : List D} (h : fill F args = some ds) : ∃ j, j ≤ F.dfl.length ∧ args.length + j = F.np ∧ ds = args ++ (F.dfl.drop (F.dfl.length - j)).map .t := by
  unfold fill at h
  split at h
  · rename_i hc
    cases h
    exact ⟨F.np - args.length, hc.2, by omega, rfl⟩
  · cases h
/-- a def of the table is called -/
theorem run_call (G : Good Γ n N sc lm X E) {f : String} {args : List D} {c : Cfg} {pins : List (Addr × Obj)} {σ : L2.St} {H : Hp} {s : Shared} {us : List Value} {vs : List V} {Q : VK} (I : L2.Inv X pins σ H s) (r : Rel X.K Γ.Λ Γ.TB c H) (rv : Vals vs us) (hd : DensD X.K Γ.Λ c args vs)
    (w : WpG X.K Γ E (callD Γ.P Γ.cf f args c.st) c H (DenD X.K Γ.Λ) Q) : wpAny (model X.prog X.w) X.A (call (.ref (Γ.Λ.fA f)) us) (EP X pins σ Q) X.xe s := by
  unfold callD at w
  cases hf : Γ.P.fn f with
  | none => rw [hf] at w; exact w.elim
  | some F =>
    rw [hf] at w
    dsimp only at w
    cases hl : fill F args with
    | none => rw [hl] at w; exact w.elim
    | some ds =>
      rw [hl] at w
      dsimp only at w
      obtain ⟨fd, ps, hps, fo, hb⟩ := (G.lnk.fn f F hf).ok
      obtain ⟨j, hj, hlen, rfl⟩ := fill_some hl
      obtain ⟨vals, dvs, b1, b2, b3⟩ := hb j hj
      have h := callD0_ok r (DensD.append hd (b3 c)) w
      have e : (args ++ (F.dfl.drop (F.dfl.length - j)).map D.t).length = F.np := by simp; omega
      rw [e] at h
      exact run_fn fo (G.room0.mono (Nat.le_succ _)) b1 b2 G.passes I rv h
theorem run_new (G : Good Γ n N sc lm X E) {cl : String} {args : List D} {c : Cfg} {pins : List (Addr × Obj)} {σ : L2.St} {H : Hp} {s : Shared} {us : List Value} {vs : List V} {Q : VK} (mk : ∀ C, Γ.P.cls cl = some C → Mk X.K (Γ.Λ.cA cl) (Γ.Λ.fA C.init)) (I : L2.Inv X pins σ H s) (r : Rel X.K Γ.Λ Γ.TB c H) (rv : Vals vs us) (hd : DensD X.K Γ.Λ c args vs)
    (w : WpG X.K Γ E (newD Γ.P Γ.cf cl args c.st) c H (DenD X.K Γ.Λ) Q) : wpAny (model X.prog X.w) X.A (call (.ref (Γ.Λ.cA cl)) us) (EP X pins σ Q) X.xe s := by
  unfold newD at w
  cases hc : Γ.P.cls cl with
  | none => rw [hc] at w; exact w.elim
  | some C =>
    rw [hc] at w
    dsimp only at w
    cases hf : Γ.P.fn C.init with
    | none => rw [hf] at w; exact w.elim
    | some F =>
      rw [hf] at w
      dsimp only at w
      cases hl : fill F (.h 0 :: args) with
      | none => rw [hl] at w; exact w.elim
      | some ds =>
        rw [hl] at w
        obtain ⟨fd, ps, hps, fo, hb⟩ := (G.lnk.fn C.init F hf).ok
        obtain ⟨j, hj, hlen, rfl⟩ := fill_some hl
        dsimp only [List.cons_append] at w
        obtain ⟨vals, dvs, b1, b2, b3⟩ := hb j hj
        have h := newD0_ok r (DensD.append hd (b3 c)) w
        have e : (args ++ (F.dfl.drop (F.dfl.length - j)).map D.t).length + 1 = F.np := by simp at hlen ⊢; omega
        rw [e] at h
        exact run_make (mk C hc) fo G.room0 b1 b2 G.passes I rv h
theorem call_read {f : String} {es : Exs} {K : PySem.W.Frag} {σ : L2.St} {H : Hp} {Q : VK} (h : rE K Γ E (.call f es) σ H Q) : rA K Γ E es σ H fun vs H1 => ∃ c ds, Rel K Γ.Λ Γ.TB c H1 ∧ DensD K Γ.Λ c ds vs ∧ WpG K Γ E (callD Γ.P Γ.cf f ds c.st) c H1 (DenD K Γ.Λ) Q := by
  obtain ⟨c, ρ, a, w⟩ := h
  unfold evalE at w
  obtain ⟨c0, ρ0, a0, w0⟩ := rA.step a w
  exact ⟨c0, ρ0, a0, w0.imp fun vs H1 ⟨c1, ds, b1, a1, hd, w1⟩ => ⟨c1, ds, a1.rel, hd, w1⟩⟩
theorem snd_call {f : String} {es : Exs} {e : Expr} {es' : List Expr} {p : Pos} (G : Good Γ n N sc lm X E) (hf : (Γ.P.fn f).isSome = true) (hdot : dotted f = false) (hg : GlOk X.env.scope (nm f)) (h : SA Γ E X es (e :: es')) (hs : noStars (e :: es') = true) : SE Γ E X (.call f es) (.Call (.Name (nm f) p) (e :: es') [] pos) := by
  have h1 : notStar e = true ∧ noStars es' = true := by simpa [noStars] using hs
  obtain ⟨F, hF⟩ := Option.isSome_iff_exists.mp hf
  refine SE.of ⟨fun pins s σ H Q I hw => ?_⟩ rfl
  refine wpAny_Call_Name_kw (ld_glob I hg.gl (G.lnk.glf f hf hdot) ?_ hg.hd)
  refine PySem.W.callWith_K (h₀ := X.base) I.ok.mod.kin (G.lnk.fn f F hF).keep (thn (h.run pos pins s σ H _ I (call_read hw)) fun us s1 ⟨vs, H1, I1, r, c, ds, rr, hd, w⟩ => ⟨I1.kIn, ?_⟩) (star_one h1.1 es' X.env) (star_any h1.2)
  exact run_call G I1 rr r hd w
theorem snd_call0 {f : String} {p : Pos} (G : Good Γ n N sc lm X E) (hf : (Γ.P.fn f).isSome = true) (hdot : dotted f = false) (hg : GlOk X.env.scope (nm f)) : SE Γ E X (.call f .nil) (.Call (.Name (nm f) p) [] [] pos) := by
  obtain ⟨F, hF⟩ := Option.isSome_iff_exists.mp hf
  refine SE.of ⟨fun pins s σ H Q I ⟨c, ρ, a, w⟩ => ?_⟩ rfl
  refine wpAny_Call_Name_kw (ld_glob I hg.gl (G.lnk.glf f hf hdot) ?_ hg.hd)
  refine PySem.W.callWith_K0 I.kIn (G.lnk.fn f F hF).keep ?_
  unfold evalE at w
  simp only [evalEs, R.bind_ok] at w
  exact run_call (us := []) (vs := []) (args := []) G I a.rel .nil rfl w
theorem snd_calv {i : Nat} {x : Str} {es : Exs} {e : Expr} {es' : List Expr} {p : Pos} (G : Good Γ n N sc lm X E) (hn : NameOk X.N X.env.scope i x) (h : SA Γ E X es (e :: es')) (hs : noStars (e :: es') = true) : SE Γ E X (.calv i es) (.Call (.Name x p) (e :: es') [] pos) := by
  have h1 : notStar e = true ∧ noStars es' = true := by simpa [noStars] using hs
  refine SE.of ⟨fun pins s σ H Q I ⟨c, ρ, a, w⟩ => ?_⟩ rfl
  unfold evalE at w
  split at w
  · rename_i f hi
    obtain ⟨v, hv, dv⟩ := a.env.2 i _ hi
    cases dv
    split at w
    case isFalse => exact w.elim
    rename_i hsome
    have w' : WpG X.K Γ E (evalE Γ.P Γ.cf (.call f es) ρ c.st) c H (DenD X.K Γ.Λ) Q := w
    refine wpAny_Call_Name_kw (thn ((pe_var (pos := p) hn.at_ hn.vis hn.hd hn.hcd).run pins s σ H (fun v H1 => v = .ref (Γ.Λ.fA f) ∧ H1 = H) I ⟨_, hv, rfl, rfl⟩) fun u s1 ⟨v, H1, I1, r1, q1⟩ => ?_)
    obtain ⟨rfl, rfl⟩ := q1
    cases r1
    cases hF : Γ.P.fn f with
    | none => rw [hF] at hsome; cases hsome
    | some F =>
      refine PySem.W.callWith_K (h₀ := X.base) I.ok.mod.kin (G.lnk.fn f F hF).keep (thn (h.run pos pins s1 σ H1 _ I1 (call_read ⟨c, ρ, a, w'⟩)) fun us s2 ⟨vs, H2, I2, r, c2, ds, rr, hd, w2⟩ => ⟨I2.kIn, ?_⟩) (star_one h1.1 es' X.env) (star_any h1.2)
      exact run_call G I2 rr r hd w2
  · exact w.elim
theorem calv0 : True := trivial
theorem snd_calv0 {i : Nat} {x : Str} {p : Pos} (G : Good Γ n N sc lm X E) (hn : NameOk X.N X.env.scope i x) : SE Γ E X (.calv i .nil) (.Call (.Name x p) [] [] pos) := by
  refine SE.of ⟨fun pins s σ H Q I ⟨c, ρ, a, w⟩ => ?_⟩ rfl
  unfold evalE at w
  split at w
  · rename_i f hi
    obtain ⟨v, hv, dv⟩ := a.env.2 i _ hi
    cases dv
    split at w
    case isFalse => exact w.elim
    rename_i hsome
    simp only [evalEs, R.bind_ok] at w
    refine wpAny_Call_Name_kw (thn ((pe_var (pos := p) hn.at_ hn.vis hn.hd hn.hcd).run pins s σ H (fun v H1 => v = .ref (Γ.Λ.fA f) ∧ H1 = H) I ⟨_, hv, rfl, rfl⟩) fun u s1 ⟨v, H1, I1, r1, q1⟩ => ?_)
    obtain ⟨rfl, rfl⟩ := q1
    cases r1
    cases hF : Γ.P.fn f with
    | none => rw [hF] at hsome; cases hsome
    | some F =>
      refine PySem.W.callWith_K0 I1.kIn (G.lnk.fn f F hF).keep ?_
      exact run_call (us := []) (vs := []) (args := []) G I1 a.rel .nil rfl w
  · exact w.elim
/-! ### classes -/
theorem snd_new {cl : String} {es : Exs} {e : Expr} {es' : List Expr} {p : Pos} (G : Good Γ n N sc lm X E) (hc : (Γ.P.cls cl).isSome = true) (mk : ∀ C, Γ.P.cls cl = some C → Mk X.K (Γ.Λ.cA cl) (Γ.Λ.fA C.init)) (hg : GlOk X.env.scope (nm cl)) (h : SA Γ E X es (e :: es')) (hs : noStars (e :: es') = true) : SE Γ E X (.new cl es) (.Call (.Name (nm cl) p) (e :: es') [] pos) := by
  have h1 : notStar e = true ∧ noStars es' = true := by simpa [noStars] using hs
  obtain ⟨C, hC⟩ := Option.isSome_iff_exists.mp hc
  refine SE.of ⟨fun pins s σ H Q I ⟨c, ρ, a, w⟩ => ?_⟩ rfl
  unfold evalE at w
  refine wpAny_Call_Name_kw (ld_glob I hg.gl (G.lnk.clg cl C hC) ?_ hg.hd)
  refine PySem.W.callWith_K (h₀ := X.base) I.ok.mod.kin (mk C hC).kp (thn (h.run pos pins s σ H _ I (rA.step a w)) fun us s1 ⟨vs, H1, I1, r, c1, ds, b1, a1, hd, w1⟩ => ⟨I1.kIn, ?_⟩) (star_one h1.1 es' X.env) (star_any h1.2)
  exact run_new G mk I1 a1.rel r hd w1
theorem meth_eval {o : Expr} {m : Str} {ap pos : Pos} {args : List Expr} {env : PySem.Env} (hc : notCall o = true) (hs : noStars args = true) (hl : decide (args.length < 29) = true) (hline : (ap.endLine == pos.line) = true) :
    eval (.Call (.Attribute o m ap) args [] pos) env = (do
      let ov ← eval o env
      standAt ap.atName
      let (f, first) ← holding [ov] (getMethod ov m (do return (← importBound o env).getD true))
      callWith pos f first (backTo pos (starEach args env)) (backToKw pos (keywordEach [] env))) := by
  have e1 : eval (.Call (.Attribute o m ap) args [] pos) env = (do
    let ov ← attributeBase o m env (eval o env)
    standAt ap.atName
    methodCall o m ap pos env ov (args.length + 0) (backTo pos (starEach args env)) (backToKw pos (keywordEach [] env))) := rfl
  rw [e1, base_ok hc]
  have hf : methodCallForm (args.length + 0) (backTo pos (starEach args env)) (backToKw pos (keywordEach [] env)) = true := by
    unfold methodCallForm
    have a1 : ∀ {es : List Expr}, noStars es = true → (backTo pos (starEach es env)).all (!·.1) = true := by
      intro es
      induction es with
      | nil => intro _; rfl
      | cons e es ih =>
        intro h
        have h1 : notStar e = true ∧ noStars es = true := by simpa [noStars] using h
        rw [star_one h1.1]
        have := ih h1.2
        simpa [backTo] using this
    rw [a1 hs]
    have := of_decide_eq_true hl
    simp [backToKw, keywordEach]
    omega
  have e2 : ∀ ov, methodCall o m ap pos env ov (args.length + 0) (backTo pos (starEach args env)) (backToKw pos (keywordEach [] env)) = (do
      let (f, first) ← holding [ov] (getMethod ov m (do return (← importBound o env).getD true))
      callWith pos f first (backTo pos (starEach args env)) (backToKw pos (keywordEach [] env))) := fun ov => by
    unfold methodCall
    rw [hf]
    have e3 : methodCallPos true o env ap pos = pure pos := by
      unfold methodCallPos
      rw [hline]
      rfl
    rw [e3]
    rfl
  simp only [e2]
theorem snd_meth {o : Ex} {m : String} {es : Exs} {o' : Expr} {es' : List Expr} {ap : Pos} (G : Good Γ n N sc lm X E) (ho : SE Γ E X o o') (hc : notCall o' = true) (h : SA Γ E X es es') (hs : noStars es' = true) (hnil : es' = [] → es = .nil) (hl : decide (es'.length < 29) = true) (hline : (ap.endLine == pos.line) = true) : SE Γ E X (.meth o m es) (.Call (.Attribute o' (Γ.Λ.fN m) ap) es' [] pos) := by
  obtain ⟨cs, kk, hcs⟩ := G.lnk.cs
  refine SE.of ⟨fun pins s σ H Q I ⟨c, ρ, a, w⟩ => ?_⟩ rfl
  unfold evalE at w
  refine PySem.W.methodCall_KW (thn (ho.pe.run pins s σ H _ I (rE.step a w)) fun u s1 ⟨x, H1, I1, rx, c1, d, b1, a1, hd, w1⟩ => ?_) (meth_eval hc hs hl hline)
  obtain ⟨C, eC, w2⟩ := Wp.opt w1
  split at w2
  case isFalse => exact w2.elim
  rename_i hm
  rw [Bool.and_eq_true] at hm
  obtain ⟨hm, hn⟩ := hm
  unfold methOk at hm
  split at hm
  case h_2 => cases hm
  rename_i C' hC
  have hmem : m ∈ C'.meths := by simpa using hm
  have mt := G.lnk.mth C C' hC m hmem
  have cl := (kk.1 C (hcs C C' hC)).cl
  -- the object
  have obj : ∃ p dx fv, x = .ref p ∧ H1 p = some (.ins (Γ.Λ.cA C) dx fv) ∧ fv.lookup (Γ.Λ.fN m) = none := by
    cases d with
    | t t =>
      cases t with
      | ins c' fs =>
        cases eC
        have h' : Den X.K Γ.Λ c1.S (.ins C fs) x := hd
        simp only [Den] at h'
        obtain ⟨p, dx, fv, rfl, h1, h2⟩ := h'
        have q := DenFs.lookup (f := m) h2
        have hn' : fs.lookup m = none := by simpa [hasNot] using hn
        rw [hn'] at q
        exact ⟨p, dx, fv, rfl, a1.rel.sub _ _ h1, q⟩
      | _ => cases eC
    | h j =>
      obtain ⟨_, rfl⟩ := hd
      simp only [clsD] at eC
      split at eC
      · rename_i c' fs hx
        cases eC
        obtain ⟨dx, fv, h1, h2⟩ := (a1.rel.obj j _ hx (by intro z; cases z)).1
        have q := DenFD.lookup (f := m) h2
        have hn' : fs.lookup m = none := by simpa [hasNot, hx] using hn
        rw [hn'] at q
        exact ⟨_, dx, fv, rfl, h1, q⟩
      · cases eC
  obtain ⟨p, dx, fv, rfl, hp, hlk⟩ := obj
  obtain rfl : u = Value.ref p := rx
  refine getmeth_ok I1 hp cl mt hlk ?_
  cases es' with
  | nil =>
    refine PySem.W.callWith_K0 (first := [.ref p]) I1.kIn mt.kp ?_
    have hes := hnil rfl
    subst hes
    simp only [evalEs, R.bind_ok] at w2
    exact run_call (us := [.ref p]) (vs := [.ref p]) (args := [d]) G I1 a1.rel (.cons rfl .nil) ⟨_, _, rfl, hd, rfl⟩ w2
  | cons e es' =>
    have h1 : notStar e = true ∧ noStars es' = true := by simpa [noStars] using hs
    refine PySem.W.callWith_K (first := [.ref p]) (h₀ := X.base) I.ok.mod.kin mt.kp (thn (h.run pos pins s1 σ H1 _ I1 (rA.step a1 w2)) fun us s2 ⟨vs, H2, I2, r, c2, ds, b2, a2, hds, w3⟩ => ⟨I2.kIn, ?_⟩) (star_one h1.1 es' X.env) (star_any h1.2)
    exact run_call (us := .ref p :: us) (vs := .ref p :: vs) (args := d :: ds) G I2 a2.rel (.cons rfl r) ⟨_, _, rfl, DenD.mono b2.ext _ _ hd, hds⟩ w3
end
end Ice
end

section
set_option Elab.async false
set_option linter.all false
set_option maxRecDepth 100000
set_option maxHeartbeats 4000000
namespace Ice
open PySem PySem.Spec PyProof.Rows PySem.W L2

def WpF (K : PySem.W.Frag) (Γ : Gm) (E : XK) (w : Fw) (c : Cfg) (H : Hp) (D : Ends) : Prop := match w with
  | .nx ρ st' => ∀ c' H' σ', After K Γ.Λ Γ.TB c H c' H' → c'.st = st' → EnvR K Γ.Λ c' ρ σ' → D.nx σ' H'
  | .rt d st' => ∀ c' H' v, After K Γ.Λ Γ.TB c H c' H' → c'.st = st' → DenD K Γ.Λ c' d v → D.rt v H'
  | .bk ρ st' => ∀ c' H' σ', After K Γ.Λ Γ.TB c H c' H' → c'.st = st' → EnvR K Γ.Λ c' ρ σ' → D.bk σ' H'
  | .ex e st' => ∀ c' H' d, After K Γ.Λ Γ.TB c H c' H' → c'.st = st' → ExnR K Γ.Λ c' H' d e → E (.ref (Γ.Λ.cA e.cls)) (some d) H'
  | .no => False
def rS (K : PySem.W.Frag) (Γ : Gm) (E : XK) (s : Sm) : TS := fun D σ H => ∃ c ρ, At K Γ c ρ σ H ∧ WpF K Γ E (execS Γ.P Γ.cf s ρ c.st) c H D
def rSs (K : PySem.W.Frag) (Γ : Gm) (E : XK) (s : Sms) : TS := fun D σ H => ∃ c ρ, At K Γ c ρ σ H ∧ WpF K Γ E (execSs Γ.P Γ.cf s ρ c.st) c H D
section
variable {Γ : Gm} {E : XK} {X : Cx} {n : Nat} {N : List Str} {sc : Scope} {lm : Bool} {pos : Pos} {K : PySem.W.Frag} {c c1 : Cfg} {H H1 : Hp} {ρ : Env} {σ : L2.St} {D D' : Ends}
theorem WpF.move {w : Fw} (h : WpF K Γ E w c H D) (a : After K Γ.Λ Γ.TB c H c1 H1) : WpF K Γ E w c1 H1 D := by
  cases w with
  | nx x st => exact fun c' H' v b e d => h c' H' v (a.trans b) e d
  | rt x st => exact fun c' H' v b e d => h c' H' v (a.trans b) e d
  | bk x st => exact fun c' H' v b e d => h c' H' v (a.trans b) e d
  | ex x st => exact fun c' H' d b e x => h c' H' d (a.trans b) e x
  | no => exact h
theorem WpF.imp {w : Fw} (h : WpF K Γ E w c H D) (h1 : ∀ σ H, D.nx σ H → D'.nx σ H) (h2 : ∀ v H, D.rt v H → D'.rt v H) (h3 : ∀ σ H, D.bk σ H → D'.bk σ H) : WpF K Γ E w c H D' := by
  cases w with
  | nx x st => exact fun c' H' v b e d => h1 _ _ (h c' H' v b e d)
  | rt x st => exact fun c' H' v b e d => h2 _ _ (h c' H' v b e d)
  | bk x st => exact fun c' H' v b e d => h3 _ _ (h c' H' v b e d)
  | ex x st => exact h
  | no => exact h
/-- an expression first -/
theorem WpF.of {α β : Type} {r : R α} {f : α → Store → Fw} {Dr : Cfg → α → β → Prop} (h : WpF K Γ E (Fw.of r f) c H D) : WpG K Γ E r c H Dr (fun v H1 => ∃ c1 a, After K Γ.Λ Γ.TB c H c1 H1 ∧ Dr c1 a v ∧ WpF K Γ E (f a c1.st) c1 H1 D) := by
  cases r with
  | ok a st => exact fun c' H' v b e d => ⟨c', a, b, d, by rw [e]; exact h.move b⟩
  | ex x st => exact h
  | no => exact h
theorem WpF.here {ρ' : Env} {σ' : L2.St} (h : WpF K Γ E (.nx ρ' c.st) c H D) (r : Rel K Γ.Λ Γ.TB c H) (en : EnvR K Γ.Λ c ρ' σ') : D.nx σ' H := h c H σ' (After.refl r) rfl en
theorem WpF.step {e : Ex} {f : Ice.D → Store → Fw} (a : At K Γ c ρ σ H) (h : WpF K Γ E (Fw.of (evalE Γ.P Γ.cf e ρ c.st) f) c H D) :
    rE K Γ E e σ H fun x H1 => ∃ c1 d, After K Γ.Λ Γ.TB c H c1 H1 ∧ At K Γ c1 ρ σ H1 ∧ DenD K Γ.Λ c1 d x ∧ WpF K Γ E (f d c1.st) c1 H1 D :=
  ⟨c, ρ, a, (WpF.of (Dr := DenD K Γ.Λ) h).imp fun v H' ⟨c1, d, b, hd, hw⟩ => ⟨c1, d, b, a.move b, hd, hw⟩⟩
theorem WpF.stepA {e : Exs} {f : List Ice.D → Store → Fw} (a : At K Γ c ρ σ H) (h : WpF K Γ E (Fw.of (evalEs Γ.P Γ.cf e ρ c.st) f) c H D) :
    rA K Γ E e σ H fun x H1 => ∃ c1 d, After K Γ.Λ Γ.TB c H c1 H1 ∧ At K Γ c1 ρ σ H1 ∧ DensD K Γ.Λ c1 d x ∧ evalEs Γ.P Γ.cf e ρ c.st = .ok d c1.st ∧ WpF K Γ E (f d c1.st) c1 H1 D := by
  refine ⟨c, ρ, a, ?_⟩
  cases q : evalEs Γ.P Γ.cf e ρ c.st with
  | ok ds st => rw [q] at h; exact fun c' H' v b e hd => ⟨c', ds, b, a.move b, hd, by rw [e], by rw [e]; exact WpF.move h b⟩
  | ex x st => rw [q] at h; exact h
  | no => rw [q] at h; exact h
/-- a test first -/
theorem WpF.test {e : Ex} {g : Bool → Store → Fw} (a : At K Γ c ρ σ H) (h : WpF K Γ E (Fw.of (evalE Γ.P Γ.cf e ρ c.st) fun x st => match truth st x with
      | some k => g k st
      | none => .no) c H D) : rT K Γ E e σ H fun b H1 => ∃ c1, After K Γ.Λ Γ.TB c H c1 H1 ∧ At K Γ c1 ρ σ H1 ∧ WpF K Γ E (g b c1.st) c1 H1 D := by
  refine ⟨c, ρ, a, ?_⟩
  cases q : evalE Γ.P Γ.cf e ρ c.st with
  | ok d st =>
    rw [q] at h
    simp only [Fw.of_ok] at h
    show Wp K Γ.Λ Γ.TB (ofOpt st (truth st d)) c H dEq _ E
    cases z : truth st d with
    | none => rw [z] at h; exact h
    | some k =>
      rw [z] at h
      intro c' H' v b es hd
      cases hd
      exact ⟨c', b, a.move b, by rw [es]; exact WpF.move h b⟩
  | ex x st => rw [q] at h; exact h
  | no => rw [q] at h; exact h
/-! ### blocks -/
abbrev SS (Γ : Gm) (E : XK) (X : Cx) (s : Sms) (b : List Stmt) : Prop := PSs X b (rSs X.K Γ E s)
abbrev S1 (Γ : Gm) (E : XK) (X : Cx) (s : Sm) (b : Stmt) : Prop := PS X b (rS X.K Γ E s)
theorem snd_snil : SS Γ E X .nil [] := pss_nil.imp fun D σ H ⟨c, ρ, a, w⟩ => by
  unfold execSs at w
  exact w.here a.rel a.env
theorem seq_read {s : Sm} {r : Sms} : ∀ D σ H, rSs K Γ E (.cons s r) D σ H → tSeq (rS K Γ E s) (rSs K Γ E r) D σ H := fun D σ H ⟨c, ρ, a, w⟩ => by
  unfold execSs at w
  refine ⟨c, ρ, a, ?_⟩
  cases q : execS Γ.P Γ.cf s ρ c.st with
  | nx ρ' st' => rw [q] at w; exact fun c' H' σ' b e en => ⟨c', ρ', ⟨b.rel, en⟩, by rw [e]; exact WpF.move w b⟩
  | rt _ _ => rw [q] at w; exact w
  | bk _ _ => rw [q] at w; exact w
  | ex _ _ => rw [q] at w; exact w
  | no => rw [q] at w; exact w
theorem snd_scons {s : Sm} {r : Sms} {s' : Stmt} {r' : List Stmt} (h : S1 Γ E X s s') (hr : SS Γ E X r r') : SS Γ E X (.cons s r) (s' :: r') := (pss_cons h hr).imp seq_read
/-- the last of a block -/
theorem snd_frz {i : Nat} {r : Sms} {b : List Stmt} (h : SS Γ E X r b) : SS Γ E X (.cons (.frz i) r) b := h.imp fun D σ H ⟨c, ρ, a, w⟩ => by
  unfold execSs execS at w
  split at w
  · rename_i k hi
    split at w
    · rename_i xs hk
      split at w
      · rename_i ys hy
        simp only [Fw.nxt_nx] at w
        obtain ⟨vs, h1, h2⟩ := (a.rel.obj k _ hk (by intro z; cases z)).1
        have b := After.freeze a.rel hk (by intro z; cases z) h1
        obtain ⟨v, hv, dv⟩ := a.env.2 i _ hi
        obtain ⟨_, rfl⟩ := dv
        have en := EnvR.mono b.ext a.env
        refine ⟨_, ρ.set i (some (.t (.lst ys))), ⟨b.rel, ⟨by simp [a.env.1], fun j d hj => ?_⟩⟩, WpF.move w b⟩
        by_cases e : i = j
        · subst e
          rw [List.getElem?_set_self (List.getElem?_eq_some_iff.mp hi).1] at hj
          cases hj
          refine ⟨_, hv, ?_⟩
          show Den _ _ _ _ _
          simp only [Den]
          exact ⟨_, vs, rfl, upd_same, Dens.mono b.sub ys vs (Dens.trees hy h2)⟩
        · rw [List.getElem?_set_ne e] at hj
          exact en.2 j d hj
      · exact w.elim
    · exact w.elim
  · exact w.elim
/-! ### small statements -/
theorem snd_pass : S1 Γ E X .pass_ (.Pass pos) := ps_pass.imp fun D σ H ⟨c, ρ, a, w⟩ => by
  unfold execS at w
  exact w.here a.rel a.env
theorem snd_brk : S1 Γ E X .brk (.Break pos) := ps_break.imp fun D σ H ⟨c, ρ, a, w⟩ => by
  unfold execS at w
  exact w c H σ (After.refl a.rel) rfl a.env
theorem snd_ret {e : Ex} {e' : Expr} (h : SE Γ E X e e') : S1 Γ E X (.ret e) (.Return (some e') pos) := (ps_ret h.pe).imp fun D σ H ⟨c, ρ, a, w⟩ => by
  unfold execS at w
  obtain ⟨c0, ρ0, a0, w0⟩ := WpF.step a w
  exact ⟨c0, ρ0, a0, w0.imp fun x H1 ⟨c1, d, b1, a1, hd, w1⟩ => w1 c1 H1 x (After.refl a1.rel) rfl hd⟩
theorem snd_retN : S1 Γ E X (.ret (.lit .non)) (.Return none pos) := ps_retN.imp fun D σ H ⟨c, ρ, a, w⟩ => by
  unfold execS evalE at w
  exact w c H .non (After.refl a.rel) rfl rfl
theorem snd_expr {e : Ex} {e' : Expr} (h : SE Γ E X e e') (hc : notComp e' = true) : S1 Γ E X (.ex e) (.Expr e' pos) := (ps_expr h.pe (swaps_ok hc _ _ _)).imp fun D σ H ⟨c, ρ, a, w⟩ => by
  unfold execS at w
  obtain ⟨c0, ρ0, a0, w0⟩ := WpF.step a w
  exact ⟨c0, ρ0, a0, w0.imp fun x H1 ⟨c1, d, b1, a1, hd, w1⟩ => w1.here a1.rel a1.env⟩
theorem snd_if {e : Ex} {s t : Sms} {e' : Expr} {s' t' : List Stmt} (h : SE Γ E X e e') (hs : SS Γ E X s s') (ht : SS Γ E X t t') : S1 Γ E X (.if_ e s t) (.If e' s' t' pos) := (ps_if h.pt hs ht).imp fun D σ H ⟨c, ρ, a, w⟩ => by
  unfold execS at w
  have w' : WpF X.K Γ E (Fw.of (evalE Γ.P Γ.cf e ρ c.st) fun x st => match truth st x with
      | some k => (fun k st => if k = true then execSs Γ.P Γ.cf s ρ st else execSs Γ.P Γ.cf t ρ st) k st
      | none => .no) c H D := by
    cases q : evalE Γ.P Γ.cf e ρ c.st with
    | ok d st =>
      rw [q] at w
      simp only [Fw.of_ok] at w ⊢
      cases z : truth st d with
      | none => rw [z] at w; exact w
      | some k => rw [z] at w; cases k <;> exact w
    | ex _ _ => rw [q] at w; exact w
    | no => rw [q] at w; exact w
  obtain ⟨c0, ρ0, a0, w0⟩ := WpF.test a w'
  refine ⟨c0, ρ0, a0, w0.imp fun k H1 ⟨c1, b1, a1, w1⟩ => ?_⟩
  cases k with
  | true => exact ⟨c1, ρ, a1, w1⟩
  | false => exact ⟨c1, ρ, a1, w1⟩
/-! ### loops -/
theorem loop_body {b : Fw} {f : Env → Store → Fw} {D : Ends} (h : WpF K Γ E (match b with
      | .nx ρ'' st'' => f ρ'' st''
      | .bk ρ'' st'' => .nx ρ'' st''
      | w => w) c H D) (N : L2.St → Hp → Prop) (hN : ∀ c' ρ' σ' H', After K Γ.Λ Γ.TB c H c' H' → At K Γ c' ρ' σ' H' → WpF K Γ E (f ρ' c'.st) c' H' D → N σ' H') : WpF K Γ E b c H { D with nx := N, ct := N, bk := D.nx } := by
  cases b with
  | nx ρ' st' => exact fun c' H' σ' b e en => hN c' ρ' σ' H' b ⟨b.rel, en⟩ (by rw [e]; exact WpF.move h b)
  | rt d st' => exact h
  | bk ρ' st' => exact h
  | ex e st' => exact h
  | no => exact h
theorem snd_while {e : Ex} {s : Sms} {e' : Expr} {s' : List Stmt} (G : Good Γ n N sc lm X E) (h : SE Γ E X e e') (hs : SS Γ E X s s') : S1 Γ E X (.whl e s) (.While e' s' [] pos) := (ps_while G.po h.pt hs).imp fun D σ H ⟨c, ρ, a, w⟩ => by
  unfold execS at w
  refine ⟨fun m σ H => ∃ c ρ, At X.K Γ c ρ σ H ∧ WpF X.K Γ E (whileL (fun ρ st => evalE Γ.P Γ.cf e ρ st) (fun ρ st => execSs Γ.P Γ.cf s ρ st) m ρ c.st) c H D, ⟨whileFuel, c, ρ, a, w⟩, fun m σ H ⟨c, ρ, a, w⟩ => ?_⟩
  cases m with
  | zero => exact w.elim
  | succ k =>
    unfold whileL at w
    have w' : WpF X.K Γ E (Fw.of (evalE Γ.P Γ.cf e ρ c.st) fun x st => match truth st x with
        | some k' => (fun (k' : Bool) st => if k' = true then (match execSs Γ.P Γ.cf s ρ st with
          | .nx ρ'' st'' => whileL (fun ρ st => evalE Γ.P Γ.cf e ρ st) (fun ρ st => execSs Γ.P Γ.cf s ρ st) k ρ'' st''
          | .bk ρ'' st'' => .nx ρ'' st''
          | w => w) else .nx ρ st) k' st
        | none => .no) c H D := by
      cases q : evalE Γ.P Γ.cf e ρ c.st with
      | ok d st =>
        rw [q] at w
        simp only [Fw.of_ok] at w ⊢
        cases z : truth st d with
        | none => rw [z] at w; exact w
        | some k => rw [z] at w; cases k <;> exact w
      | ex _ _ => rw [q] at w; exact w
      | no => rw [q] at w; exact w
    obtain ⟨c0, ρ0, a0, w0⟩ := WpF.test a w'
    refine ⟨c0, ρ0, a0, w0.imp fun b H1 ⟨c1, b1, a1, w1⟩ => ?_⟩
    cases b with
    | false => exact w1.here a1.rel a1.env
    | true =>
      rw [if_pos rfl] at w1 ⊢
      exact ⟨fun σ H => ∃ c ρ, At X.K Γ c ρ σ H ∧ WpF X.K Γ E (whileL (fun ρ st => evalE Γ.P Γ.cf e ρ st) (fun ρ st => execSs Γ.P Γ.cf s ρ st) k ρ c.st) c H D, fun σ' H' h => ⟨k, Nat.lt_succ_self k, h⟩, c1, ρ, a1, loop_body w1 _ fun c' ρ' σ' H' _ a' w' => ⟨c', ρ', a', w'⟩⟩
theorem snd_for {g : Tg} {src : Src} {s : Sms} {tg' it' : Expr} {s' : List Stmt} (G : Good Γ n N sc lm X E) (hi : SI Γ E X tg' src it') (hg : PG X tg' (rG X.K Γ g)) (hs : SS Γ E X s s') (hf : notSet it' = true) : S1 Γ E X (.for_ g src s) (.For tg' it' s' [] pos) := (ps_for G.po G.calm hi hg hs (fun x => folded_ok hf X.env x)).imp fun D σ H ⟨c, ρ, a, w⟩ => by
  unfold execS at w
  refine ⟨c, ρ, a, (WpF.of (Dr := ItR X.K Γ) w).imp fun J H1 ⟨c1, it, b1, hJ, w1⟩ => ?_⟩
  refine ⟨fun i m σ H => ∃ c ρ, At X.K Γ c ρ σ H ∧ Ext c1 c ∧ WpF X.K Γ E (forL it g (fun ρ st => execSs Γ.P Γ.cf s ρ st) m i ρ c.st) c H D, ⟨lenI c1.st it, c1, ρ, a.move b1, Ext.refl c1, w1⟩, fun i m σ H ⟨c2, ρ2, a2, e2, w2⟩ => ?_⟩
  have hj := hJ c2 H i e2 a2.rel
  rw [forL.eq_def] at w2
  dsimp only at w2
  cases q : getI c2.st i it with
  | none => rw [q] at w2; exact w2.elim
  | some o =>
    cases o with
    | none =>
      rw [q] at w2 hj
      exact .inl ⟨hj, w2.here a2.rel a2.env⟩
    | some d =>
      rw [q] at w2 hj
      cases m with
      | zero => exact w2.elim
      | succ k =>
        refine .inr ⟨hj.1, fun σ H => ∃ c ρ, At X.K Γ c ρ σ H ∧ Ext c1 c ∧ WpF X.K Γ E (forL it g (fun ρ st => execSs Γ.P Γ.cf s ρ st) k (i + 1) ρ c.st) c H D, fun σ' H' h => ⟨k, Nat.lt_succ_self k, h⟩, fun x H3 hy => ?_⟩
        obtain ⟨c3, b3, es3, hd3⟩ := hj.2 x H3 hy
        dsimp only at w2
        cases eb : bindT g d ρ2 with
        | none => rw [eb] at w2; exact w2.elim
        | some ρ' =>
          rw [eb] at w2
          refine ⟨c3, d, ρ2, ρ', a2.move b3, hd3, eb, fun σ' en _ => ⟨c3, ρ', ⟨b3.rel, en⟩, ?_⟩⟩
          rw [← es3] at w2
          exact loop_body (WpF.move w2 b3) _ fun c' ρ' σ' H' b' a' w' => ⟨c', ρ', a', e2.trans (b3.trans b').ext, w'⟩
end
/-! ### stores -/
structure CompB (Γ : Gm) (E : XK) (X : Cx) (elt : Ex) (tg : Tg) (src : Src) (cond : Ox) (own : List Nat) (elt' tg' it' : Expr) (ifs : List Expr) (scope : Scope) : Prop where
  pi : SI Γ E X tg' src it'
  ok : ∃ ownp, BlkOk X.N X.env.scope scope ownp ∧ ownp.map (·.2) = own
  hg : ∀ (s : Shared) (H : Hp) (C : Addr) (cl : List (Str × Addr)) (fp : List Addr), PG (X.blk s H scope (compEnvC scope cl C X.env) fp) tg' (rG X.K Γ tg)
  ht : ∀ (s : Shared) (H : Hp) (C : Addr) (cl : List (Str × Addr)) (fp : List Addr), PTs (X.blk s H scope (compEnvC scope cl C X.env) fp) ifs (rC X.K Γ EF cond)
  he : ∀ (s : Shared) (H : Hp) (C : Addr) (cl : List (Str × Addr)) (fp : List Addr), PE (X.blk s H scope (compEnvC scope cl C X.env) fp) elt' (rE X.K Γ EF elt)
  hs : notSet it' = true
  sub : ∀ i ∈ tgIx tg, i ∈ own
section
variable {Γ : Gm} {E : XK} {X : Cx} {n : Nat} {N : List Str} {sc : Scope} {lm : Bool} {pos : Pos} {c c1 : Cfg} {H H1 : Hp} {ρ : Env} {σ : L2.St}
variable {elt : Ex} {tg : Tg} {src : Src} {cond : Ox} {own : List Nat} {elt' tg' it' : Expr} {ifs : List Expr} {scope : Scope}
theorem snd_comp (G : Good Γ n N sc lm X E) (C : CompB Γ E X elt tg src cond own elt' tg' it' ifs scope) : PE X (.ListComp elt' [⟨tg', it', ifs, 0⟩] scope pos) (rL X.K Γ E (.comp elt tg src cond own)) := by
  obtain ⟨ownp, ok, rfl⟩ := C.ok
  exact (pe_lc G.calm (by rw [G.hN]; exact G.nd) C.pi ok C.hg C.ht C.he (fun x => folded_ok C.hs X.env x)).imp (comp_tLc C.sub)
theorem asg_read {e : Ex} {i : Nat} {D : Ends} (h : rS X.K Γ E (.asg (.nm i) e) D σ H) : rE X.K Γ E e σ H fun x H1 => gName i x σ H1 D.nx := by
  obtain ⟨c, ρ, a, w⟩ := h
  unfold execS at w
  obtain ⟨c0, ρ0, a0, w0⟩ := WpF.step a w
  refine ⟨c0, ρ0, a0, w0.imp fun x H1 ⟨c1, d, b1, a1, hd, w1⟩ => ?_⟩
  simp only [bindT] at w1
  split at w1
  · rename_i ρ' hb
    split at hb
    · cases hb
      exact w1.here a1.rel (EnvR.set a1.env hd)
    · cases hb
  · exact w1.elim
theorem snd_asgFr {i : Nat} {y : Str} {py spos : Pos} (G : Good Γ n N sc lm X E) (C : CompB Γ E X elt tg src cond own elt' tg' it' ifs scope) (hy : X.N[i]? = some y) (hl : X.env.scope.names.lookup y = some .local) (hsw : swapsWith (.ListComp elt' [⟨tg', it', ifs, 0⟩] scope pos) (some (.Name y py)) spos.line X.env = pure true) :
    S1 Γ E X (.asg (.nm i) (.fr (.comp elt tg src cond own))) (.Assign [.Name y py] (.ListComp elt' [⟨tg', it', ifs, 0⟩] scope pos) spos) := by
  obtain ⟨ownp, ok, rfl⟩ := C.ok
  exact (ps_setLc G.calm (by rw [G.hN]; exact G.nd) hy hl hsw C.pi ok C.hg C.ht C.he (fun x => folded_ok C.hs X.env x)).imp fun D σ H h => comp_tLc C.sub σ H _ (fr_read σ H _ (asg_read h))
theorem snd_asgMu {i : Nat} {y : Str} {py spos : Pos} (G : Good Γ n N sc lm X E) (C : CompB Γ E X elt tg src cond own elt' tg' it' ifs scope) (hy : X.N[i]? = some y) (hl : X.env.scope.names.lookup y = some .local) (hsw : swapsWith (.ListComp elt' [⟨tg', it', ifs, 0⟩] scope pos) (some (.Name y py)) spos.line X.env = pure true) :
    S1 Γ E X (.asg (.nm i) (.mu (.comp elt tg src cond own))) (.Assign [.Name y py] (.ListComp elt' [⟨tg', it', ifs, 0⟩] scope pos) spos) := by
  obtain ⟨ownp, ok, rfl⟩ := C.ok
  exact (ps_setLc G.calm (by rw [G.hN]; exact G.nd) hy hl hsw C.pi ok C.hg C.ht C.he (fun x => folded_ok C.hs X.env x)).imp fun D σ H h => comp_tLc C.sub σ H _ (mu_read σ H _ (asg_read h))
end
end Ice
end

section
set_option Elab.async false
set_option linter.all false
set_option maxRecDepth 100000
set_option maxHeartbeats 4000000
namespace Ice
open PySem PySem.Spec PyProof.Rows PySem.W L2
section
variable {Γ : Gm} {E : XK} {X : Cx} {n : Nat} {N : List Str} {sc : Scope} {lm : Bool} {pos : Pos} {c c1 : Cfg} {H H1 : Hp} {ρ : Env} {σ : L2.St}
def notTuple : Expr → Bool
  | .Tuple .. => false
  | _ => true
def isName : Expr → Bool
  | .Name .. => true
  | _ => false
theorem swapped1 {t e : Expr} (h : notTuple e = true) (env : PySem.Env) : swappedStores [t] e env = pure none := by
  cases e <;> first | (cases t <;> rfl) | cases h
theorem swapped2 {t e : Expr} (h : isName t = true) (env : PySem.Env) : swappedStores [t] e env = pure none := by
  cases t <;> first | (cases e <;> rfl) | cases h
theorem sole_ok {t e : Expr} (h : notComp e = true) (l : Nat) (env : PySem.Env) : swapsWithSole [t] e l env = pure false := swaps_ok h _ _ _
theorem each_one {t : Expr} (h : notStar t = true) (env : PySem.Env) : (assignEach [t] env).map (·.2) = [assign t env] := by
  cases t <;> first | rfl | cases h
theorem snd_asg {g : Tg} {e : Ex} {t e' : Expr} (hg : PG X t (rG X.K Γ g)) (he : SE Γ E X e e') (hs : swapsWithSole [t] e' pos.line X.env = pure false) (hw : (notTuple e' || isName t) = true) (ht : notStar t = true) : S1 Γ E X (.asg g e) (.Assign [t] e' pos) := by
  have hw' : swappedStores [t] e' X.env = pure none := by
    rcases Bool.or_eq_true_iff.mp hw with h | h
    · exact swapped1 h _
    · exact swapped2 h _
  refine (ps_asg he.pe hg hs hw' (each_one ht _)).imp fun D σ H ⟨c, ρ, a, w⟩ => ?_
  unfold execS at w
  obtain ⟨c0, ρ0, a0, w0⟩ := WpF.step a w
  refine ⟨c0, ρ0, a0, w0.imp fun x H1 ⟨c1, d, b1, a1, hd, w1⟩ => ?_⟩
  cases q : bindT g d ρ with
  | none => rw [q] at w1; exact w1.elim
  | some ρ' =>
    rw [q] at w1
    exact ⟨c1, d, ρ, ρ', a1, hd, q, fun σ' en _ => w1.here a1.rel en⟩
/-- a comprehension for a name that is no plain local -/
theorem sole_comp {elt : Expr} {gs : List Comprehension} {scope : Scope} {p py : Pos} {y : Str} {l : Nat} {env : PySem.Env} (hk : env.scope.names.lookup y ≠ some .local) : swapsWithSole [.Name y py] (.ListComp elt gs scope p) l env = pure false := by
  have e : swapsWithSole [.Name y py] (.ListComp elt gs scope p) l env = pure (env.blockKind == .function && env.kindOf y == some .local && py.line == p.line && !(scope.names.any fun (n, k) => n == y && (k == .local || k == .cell))) := rfl
  rw [e]
  have e2 : (env.kindOf y == some .local) = false := beq_eq_false_iff_ne.mpr hk
  rw [e2]
  simp
/-! ### name op= -/
def rAug (o : BOp) : TIp := fun x y H Q => ∃ i j k : Int, x = .int i ∧ y = .int j ∧ augT o (.int i) (.int j) = some (.int k) ∧ Q (.int k) H
theorem binT_int {o : BOp} {i j : Int} {z : T} (h : binT o (.int i) (.int j) = some z) : ∃ k, z = .int k := by
  cases o with
  | add => exact ⟨_, (Option.some.inj h).symm⟩
  | sub => exact ⟨_, (Option.some.inj h).symm⟩
  | mul =>
    have e' : (if i.natAbs < 18446744073709551616 ∨ j.natAbs < 18446744073709551616 then some (T.int (i * j)) else none) = some z := h
    split at e'
    · exact ⟨_, (Option.some.inj e').symm⟩
    · cases e'
  | fdiv =>
    have e' : (if 0 < j ∧ j < 1073741824 then some (T.int (i / j)) else none) = some z := h
    split at e'
    · exact ⟨_, (Option.some.inj e').symm⟩
    · cases e'
  | mod =>
    have e' : (if 0 < j then some (T.int (i % j)) else none) = some z := h
    split at e'
    · exact ⟨_, (Option.some.inj e').symm⟩
    · cases e'
  | pow =>
    have e' : (if 0 ≤ j ∧ j ≤ 1000 ∧ i.natAbs < 18446744073709551616 then some (T.int (i ^ j.toNat)) else none) = some z := h
    split at e'
    · exact ⟨_, (Option.some.inj e').symm⟩
    · cases e'
theorem aug_int {o : BOp} {x y z : T} (h : augT o x y = some z) : ∃ i j k : Int, x = .int i ∧ y = .int j ∧ z = .int k := by
  unfold augT at h
  split at h
  · cases h
  · obtain ⟨k, rfl⟩ := binT_int h
    exact ⟨_, _, k, rfl, rfl, rfl⟩
  · cases h
theorem ip_aug (o : BOp) : PIp X (opB o) (rAug o) := by
  intro pins s σ H x y v u Q I rx ry ⟨i, j, k, ex, ey, e, q⟩
  subst ex ey
  cases o with
  | add =>
    cases e
    exact iop_add pins s σ H _ _ v u Q I rx ry ⟨i, j, rfl, rfl, q⟩
  | sub =>
    cases e
    exact iop_sub pins s σ H _ _ v u Q I rx ry ⟨i, j, rfl, rfl, q⟩
  | mul =>
    have e' : (if i.natAbs < 18446744073709551616 ∨ j.natAbs < 18446744073709551616 then some (T.int (i * j)) else none) = some (.int k) := e
    split at e'
    · cases e'
      exact iop_mul pins s σ H _ _ v u Q I rx ry ⟨i, j, rfl, rfl, by unfold CMul; omega, q⟩
    · cases e'
  | fdiv =>
    have e' : (if 0 < j ∧ j < 1073741824 then some (T.int (i / j)) else none) = some (.int k) := e
    split at e'
    · rename_i hc
      cases e'
      exact iop_fdiv pins s σ H _ _ v u Q I rx ry ⟨i, j, rfl, rfl, hc, q⟩
    · cases e'
  | mod =>
    have e' : (if 0 < j then some (T.int (i % j)) else none) = some (.int k) := e
    split at e'
    · rename_i hc
      cases e'
      exact iop_mod pins s σ H _ _ v u Q I rx ry ⟨i, j, rfl, rfl, hc, q⟩
    · cases e'
  | pow => cases e
theorem snd_aug {i : Nat} {o : BOp} {e : Ex} {y : Str} {e' : Expr} {py : Pos} (G : Good Γ n N sc lm X E) (t : TgOk X i y) (he : SE Γ E X e e') : S1 Γ E X (.aug i o e) (.AugAssign (.Name y py) (opB o) e' pos) := (ps_aug (by rw [G.hN]; exact G.nd) t.at_ t.loc he.pe (ip_aug o) t.hf).imp fun D σ H ⟨c, ρ, a, w⟩ => by
  unfold execS at w
  split at w
  · rename_i x hx
    obtain ⟨v, hv, dv⟩ := a.env.2 i _ hx
    refine ⟨v, hv, ?_⟩
    obtain ⟨c0, ρ0, a0, w0⟩ := WpF.step a w
    refine ⟨c0, ρ0, a0, w0.imp fun u H1 ⟨c1, d, b1, a1, hd, w1⟩ => ?_⟩
    split at w1
    · rename_i y
      split at w1
      · rename_i z hz
        obtain ⟨ii, j, k, rfl, rfl, rfl⟩ := aug_int hz
        cases dv
        cases hd
        exact ⟨ii, j, k, rfl, rfl, hz, w1.here a1.rel (EnvR.set a1.env rfl)⟩
      · exact w1.elim
    · exact w1.elim
  · exact w.elim
/-! ### o[i] = v -/
def rSetI (K : PySem.W.Frag) (Γ : Gm) : TSet := fun o i v H Q => ∃ c a b d st', Rel K Γ.Λ Γ.TB c H ∧ DenD K Γ.Λ c a o ∧ DenD K Γ.Λ c b i ∧ DenD K Γ.Λ c d v ∧ setD c.st a b d = some st' ∧ ∀ c' H', After K Γ.Λ Γ.TB c H c' H' → c'.st = st' → Q H'
theorem DensD.set {K : PySem.W.Frag} {Λ : Lay} {c : Cfg} {d : Ice.D} {v : V} (hd : DenD K Λ c d v) : ∀ {ds : List Ice.D} {vs : List V} (m : Nat), DensD K Λ c ds vs → DensD K Λ c (ds.set m d) (vs.set m v)
  | [], vs, m, h => by rw [show vs = [] from h]; exact rfl
  | x :: ds, vs, 0, h => by
    obtain ⟨u, r, rfl, h1, h2⟩ := h
    exact ⟨v, r, rfl, hd, h2⟩
  | x :: ds, vs, m + 1, h => by
    obtain ⟨u, r, rfl, h1, h2⟩ := h
    exact ⟨u, _, rfl, h1, DensD.set hd m h2⟩
theorem setD_cases {st st' : Store} {a b d : Ice.D} (h : setD st a b d = some st') : (∃ k j xs m, a = .h k ∧ b = .t (.int j) ∧ st[k]? = some (.lst xs) ∧ place xs.length j = some m ∧ st' = st.set k (.lst (xs.set m d))) ∨
    ∃ k tks kvs x ks, a = .h k ∧ b = .t (.tup tks) ∧ st[k]? = some (.dT kvs) ∧ d = .t x ∧ intsOf (tks.map .t) = some ks ∧ kvs.lookup ks = none ∧ kvs.length < 1000000 ∧ st' = st.set k (.dT (kvs ++ [(ks, x)])) := by
  unfold setD at h
  split at h
  · rename_i k j
    split at h
    · rename_i xs hk
      obtain ⟨m, e1, rfl⟩ := Option.map_eq_some_iff.mp h
      exact .inl ⟨k, j, xs, m, rfl, rfl, hk, e1, rfl⟩
    · cases h
  · rename_i k ks
    split at h
    · rename_i kvs x hk
      obtain ⟨ns, e1, h⟩ := Option.bind_eq_some_iff.mp h
      split at h
      · rename_i hc
        cases h
        exact .inr ⟨k, ks, kvs, x, ns, rfl, rfl, hk, rfl, e1, hc.1, hc.2, rfl⟩
      · cases h
    · cases h
  · cases h
theorem DenTs.len {K : PySem.W.Frag} {Λ : Lay} {S : Hp} : ∀ {kvs : List (List Int × T)} {kv : List (List Key × V)}, DenTs K Λ S kvs kv → kv.length = kvs.length
  | [], kv, h => by rw [show kv = [] from h]; rfl
  | _ :: _, kv, h => by
    obtain ⟨v, r, rfl, _, h2⟩ := h
    rw [List.length_cons, List.length_cons, DenTs.len h2]
theorem DenTs.snoc {K : PySem.W.Frag} {Λ : Lay} {S : Hp} {ks : List Int} {x : T} {v : V} (hx : Den K Λ S x v) : ∀ {kvs : List (List Int × T)} {kv : List (List Key × V)}, DenTs K Λ S kvs kv → DenTs K Λ S (kvs ++ [(ks, x)]) (kv ++ [(ks.map Sum.inl, v)])
  | [], kv, h => by rw [show kv = [] from h]; exact ⟨v, [], rfl, hx, rfl⟩
  | _ :: _, kv, h => by
    obtain ⟨u, r, rfl, h1, h2⟩ := h
    exact ⟨u, _, rfl, h1, DenTs.snoc hx h2⟩
theorem set_ok (hu : X.A.units + 1 < cLine) : PSet X (rSetI X.K Γ) := by
  intro pins s σ H o i v ov iv u Q I ro ri rv ⟨c, a, b, d, st', r, ha, hb, hd, e, q⟩
  rcases setD_cases e with ⟨k, j, xs, m, rfl, rfl, hk, hm, rfl⟩ | ⟨k, tks, kvs, x, ks, rfl, rfl, hk, rfl, h1, h2, h3, rfl⟩
  · obtain ⟨_, rfl⟩ := ha
    cases hb
    obtain ⟨vs, g1, g2⟩ := (r.obj k _ hk (by intro z; cases z)).1
    refine set_list pins s σ H _ _ v ov iv u Q I ro ri rv ⟨_, vs, j, m, rfl, rfl, g1, by rw [← g2.length]; exact hm, ?_⟩
    have ex : Ext c ⟨c.S, c.φ, c.st.set k (.lst (xs.set m d))⟩ := ⟨fun _ _ h => h, fun _ _ => rfl, by simp⟩
    have b := After.set (ho := .lst (vs.set m v)) (o' := .lst (xs.set m d)) r hk (by intro z; cases z) (by intro z; cases z) (fun ⟨_, z⟩ => by cases z) ⟨_, rfl, DensD.set (DenD.mono ex d v hd) m (DensD.mono ex xs vs g2)⟩
    exact q _ _ b rfl
  · obtain ⟨_, rfl⟩ := ha
    obtain ⟨p, rfl, hp⟩ := key_at r hb h1
    obtain ⟨kv, g1, g2⟩ := (r.obj k _ hk (by intro z; cases z)).1
    obtain rfl : ov = Value.ref (c.φ k) := ro
    have hl := DenTs.len g2
    have nv : valV kv (ks.map Sum.inl) = none := by
      have := dT_val ks g2
      rw [h2] at this
      exact this
    refine d_setItem hu I (DPut.t g1 hp (by rw [hl, sizeLine_eq]; omega)) ri rv fun s' I' => ⟨_, I', ?_⟩
    rw [putK_new _ nv]
    have b := After.set (ho := .dT (kv ++ [(ks.map Sum.inl, v)])) (o' := .dT (kvs ++ [(ks, x)])) r hk (by intro z; cases z) (by intro z; cases z) (fun ⟨_, z⟩ => by cases z) ⟨_, rfl, DenTs.snoc hd g2⟩
    exact q _ _ b rfl
theorem sub_asg {o i : Expr} {p2 : Pos} {env : PySem.Env} (h : notSlice i = true) : ∀ v, assign (.Subscript o i p2) env v = (do
      let ov ← holding [v] (eval o env)
      let iv ← holding [v, ov] (eval i env)
      standAt p2
      holding [v, ov, iv] (setItem ov iv v)
      release [v, ov, iv] []) := by
  intro v
  cases i <;> first | rfl | cases h
theorem snd_setI {o i e : Ex} {o' i' e' : Expr} {p2 : Pos} (G : Good Γ n N sc lm X E) (ho : SE Γ E X o o') (hi : SE Γ E X i i') (he : SE Γ E X e e') (hsl : notSlice i' = true) : S1 Γ E X (.setI o i e) (.Assign [.Subscript o' i' p2] e' pos) := by
  refine (ps_asg he.pe (pg_sub ho.pe hi.pe (set_ok (Γ := Γ) (by have := G.units; omega)) (sub_asg hsl)) (by cases e' <;> rfl) (by cases e' <;> rfl)).imp fun D σ H ⟨c, ρ, a, w⟩ => ?_
  unfold execS at w
  obtain ⟨c0, ρ0, a0, w0⟩ := WpF.step a w
  refine ⟨c0, ρ0, a0, w0.imp fun x H1 ⟨c1, d1, b1, a1, hd1, w1⟩ => ?_⟩
  obtain ⟨c0, ρ0, a0, w0⟩ := WpF.step a1 w1
  refine ⟨c0, ρ0, a0, w0.imp fun y H2 ⟨c2, d2, b2, a2, hd2, w2⟩ => ?_⟩
  obtain ⟨c0, ρ0, a0, w0⟩ := WpF.step a2 w2
  refine ⟨c0, ρ0, a0, w0.imp fun z H3 ⟨c3, d3, b3, a3, hd3, w3⟩ => ?_⟩
  cases q : setD c3.st d2 d3 d1 with
  | none => rw [q] at w3; exact w3.elim
  | some st' =>
    rw [q] at w3
    exact ⟨c3, d2, d3, d1, st', a3.rel, DenD.mono b3.ext _ _ hd2, hd3, DenD.mono (b2.trans b3).ext _ _ hd1, q, fun c' H' b es => w3 c' H' σ b es (EnvR.mono b.ext a3.env)⟩
end
end Ice
end

section
set_option Elab.async false
set_option linter.all false
set_option maxRecDepth 100000
set_option maxHeartbeats 4000000
namespace Ice
open PySem PySem.Spec PyProof.Rows PySem.W L2
section
variable {Γ : Gm} {E : XK} {X : Cx} {n : Nat} {N : List Str} {sc : Scope} {lm : Bool} {pos : Pos} {c c1 : Cfg} {H H1 : Hp} {ρ : Env} {σ : L2.St}
/-! ### o[i] op= v -/
def rGetI (K : PySem.W.Frag) (Γ : Gm) : V → V → Hp → VK → Prop := rSub K Γ.Λ Γ.TB
theorem get_ok (hu : X.A.units + 1 < cLine) : PGet X (rGetI X.K Γ) := by
  intro pins s σ H x y v u Q I rx ry ⟨c, a, b, d, r, ha, hb, e, q⟩
  rcases subD_cases e with ⟨k, ks, kvs, ns, t, rfl, rfl, hk, e1, e2, rfl⟩ | ⟨i, xs, rfl, e1, e2⟩
  · obtain ⟨_, rfl⟩ := ha
    obtain ⟨o, g, ho⟩ := dget_of r hb e1 hk
    rw [e2] at ho
    obtain ⟨w, rfl, hw⟩ := ho
    obtain rfl : v = Value.ref (c.φ k) := rx
    exact d_getItem hu I g ry fun w' s' I' rw' => ⟨w, H, I', rw', q w hw⟩
  · cases hb
    obtain ⟨p, vs, rfl, hq, hv⟩ := items_of r ha e1
    obtain ⟨w, e3, hw⟩ := atI_den hv e2
    obtain ⟨t, rfl⟩ := ry
    obtain rfl : v = Value.ref p := rx
    obtain ⟨j, h1, h2, h3, h4, h5⟩ := atI_get e3
    have hn := line63
    rcases hq with hq | ⟨hq, _⟩
    · obtain ⟨its, rv, pl, hz⟩ := I.list hq
      obtain ⟨wv, ew, rw'⟩ := rv.get h2
      have hl := rv.length
      have fin : EP X pins σ Q wv s := ⟨w, H, I, rw', q w hw⟩
      by_cases h0 : 0 ≤ i
      · have hj : i.toNat = j := by
          rw [seqIndex_of h0 h5] at h1
          exact Option.some.inj h1
        exact wpAny_getItem_list pl.isList h0 (by omega) (by rw [hj]; simpa using ew) fin
      · have hj : (i + (its.toArray.size : Int)).toNat = j := by
          rw [seqIndex_neg (by omega) h4] at h1
          rw [List.size_toArray, ← hl]
          exact Option.some.inj h1
        exact wpAny_getItem_list_neg pl.isList (by omega) (by rw [List.size_toArray] <;> omega) (by omega) (by rw [hj]; simpa using ew) fin
    · obtain ⟨its, rv, pl, hz⟩ := I.tuple hq
      obtain ⟨wv, ew, rw'⟩ := rv.get h2
      have hl := rv.length
      exact getItem_tuple (j := j) pl (by omega) (by omega) (by rw [List.size_toArray, ← hl]; exact h1) (by simpa using ew) ⟨w, H, I, rw', q w hw⟩
theorem aug_store {i : Expr} (h : notSlice i = true) : ∀ ov iv new, augStore i ov iv new = (do holding [new, ov, iv] (setItem ov iv new); release [new, ov, iv] []; pure .next) := by
  intro ov iv new
  cases i <;> first | rfl | cases h
theorem snd_augI {o i e : Ex} {op : BOp} {o' i' e' : Expr} {p2 : Pos} (G : Good Γ n N sc lm X E) (ho : SE Γ E X o o') (hi : SE Γ E X i i') (he : SE Γ E X e e') (hsl : notSlice i' = true) : S1 Γ E X (.augI o i op e) (.AugAssign (.Subscript o' i' p2) (opB op) e' pos) := by
  have hu : X.A.units + 1 < cLine := by have := G.units; omega
  refine (ps_augS ho.pe hi.pe (get_ok (Γ := Γ) hu) he.pe (ip_aug op) (set_ok (Γ := Γ) hu) (aug_store hsl)).imp fun D σ H ⟨c, ρ, a, w⟩ => ?_
  unfold execS at w
  obtain ⟨c0, ρ0, a0, w0⟩ := WpF.step a w
  refine ⟨c0, ρ0, a0, w0.imp fun x H1 ⟨c1, d1, b1, a1, hd1, w1⟩ => ?_⟩
  obtain ⟨c0, ρ0, a0, w0⟩ := WpF.step a1 w1
  refine ⟨c0, ρ0, a0, w0.imp fun y H2 ⟨c2, d2, b2, a2, hd2, w2⟩ => ?_⟩
  split at w2
  · rename_i t ht
    have hd1' := DenD.mono b2.ext _ _ hd1
    refine ⟨c2, d1, d2, .t t, a2.rel, hd1', hd2, ht, fun v hv => ?_⟩
    obtain ⟨c0, ρ0, a0, w0⟩ := WpF.step a2 w2
    refine ⟨c0, ρ0, a0, w0.imp fun z H3 ⟨c3, d3, b3, a3, hd3, w3⟩ => ?_⟩
    split at w3
    · split at w3
      · rename_i u hu'
        obtain ⟨ii, j, k, rfl, rfl, rfl⟩ := aug_int hu'
        cases hv
        cases hd3
        refine ⟨ii, j, k, rfl, rfl, hu', ?_⟩
        split at w3
        · rename_i st' hs
          exact ⟨c3, d1, d2, .t (.int k), st', a3.rel, DenD.mono b3.ext _ _ hd1', DenD.mono b3.ext _ _ hd2, rfl, hs, fun c' H' b es => w3 c' H' σ b es (EnvR.mono b.ext a3.env)⟩
        · exact w3.elim
      · exact w3.elim
    · exact w3.elim
  · exact w2.elim
/-! ### o.f = v, o.f op= v -/
theorem setAt_ok {K : PySem.W.Frag} {c : Cfg} {H : Hp} {o d : Ice.D} {x v : V} {f : String} {st' : Store} (r : Rel K Γ.Λ Γ.TB c H) (ho : DenD K Γ.Λ c o x) (hd : DenD K Γ.Λ c d v) (e : setAt Γ.P c.st o f d = some st') :
    ∃ a C C' dx fv c', x = .ref a ∧ H a = some (.ins (Γ.Λ.cA C) dx fv) ∧ fv.length < 1000 ∧ Γ.P.cls C = some C' ∧ f ∈ C'.flds ∧ After K Γ.Λ Γ.TB c H c' (upd H a (.ins (Γ.Λ.cA C) dx (L2.putF (Γ.Λ.fN f) v fv))) ∧ c'.st = st' ∧ clsD c.st o = some C := by
  unfold setAt at e
  split at e
  · rename_i k
    split at e
    · rename_i C fs hk
      split at e
      · rename_i hc
        cases e
        obtain ⟨_, rfl⟩ := ho
        obtain ⟨dx, fv, g1, g2⟩ := (r.obj k _ hk (by intro z; cases z)).1
        have hf := hc.2
        unfold fldOk at hf
        split at hf
        · rename_i C' hC
          have ex : Ext c ⟨c.S, c.φ, c.st.set k (.ins C (Ice.putF f d fs))⟩ := ⟨fun _ _ h => h, fun _ _ => rfl, by simp⟩
          have b := After.set (ho := .ins (Γ.Λ.cA C) dx (L2.putF (Γ.Λ.fN f) v fv)) (o' := .ins C (Ice.putF f d fs)) r hk (by intro z; cases z) (by intro z; cases z) (fun ⟨_, z⟩ => by cases z) ⟨dx, _, rfl, DenFD.put (DenD.mono ex d v hd) (DenFD.mono ex fs fv g2)⟩
          exact ⟨_, C, C', dx, fv, _, rfl, g1, by rw [g2.keys]; omega, hC, by simpa using hf, b, rfl, by simp [clsD, hk]⟩
        · cases hf
      · cases e
    · cases e
  · cases e
theorem snd_setA {o e : Ex} {f : String} {o' e' : Expr} {p2 : Pos} (G : Good Γ n N sc lm X E) (ho : SE Γ E X o o') (he : SE Γ E X e e') (hc : notComp e' = true) : S1 Γ E X (.setA o f e) (.Assign [.Attribute o' (Γ.Λ.fN f) p2] e' pos) := by
  obtain ⟨cs, kk, hcs⟩ := G.lnk.cs
  refine (ps_fld ho.pe he.pe (swaps_ok hc _ _ _)).imp fun D σ H ⟨c, ρ, a, w⟩ => ?_
  unfold execS at w
  obtain ⟨c0, ρ0, a0, w0⟩ := WpF.step a w
  refine ⟨c0, ρ0, a0, w0.imp fun x H1 ⟨c1, d1, b1, a1, hd1, w1⟩ => ?_⟩
  obtain ⟨c0, ρ0, a0, w0⟩ := WpF.step a1 w1
  refine ⟨c0, ρ0, a0, w0.imp fun y H2 ⟨c2, d2, b2, a2, hd2, w2⟩ => ?_⟩
  split at w2
  · rename_i st' hs
    obtain ⟨p, C, C', dx, fv, c', rfl, g1, g2, g3, g4, b, es, _⟩ := setAt_ok a2.rel hd2 (DenD.mono b2.ext _ _ hd1) hs
    exact ⟨p, _, dx, fv, rfl, g1, (kk.1 C (hcs C C' g3)).cl, G.lnk.fld C C' g3 f g4, g2, w2 c' _ σ b es (EnvR.mono b.ext a2.env)⟩
  · exact w2.elim
theorem in_aug (op : BOp) : InOp X (opB op) (rAug op) := fun pins s σ H x y u v Q I rx ry q => ip_aug op pins s σ H x y u v Q I rx ry q
theorem snd_augA {o e : Ex} {f : String} {op : BOp} {o' e' : Expr} {p2 : Pos} (G : Good Γ n N sc lm X E) (ho : SE Γ E X o o') (he : SE Γ E X e e') : S1 Γ E X (.augA o f op e) (.AugAssign (.Attribute o' (Γ.Λ.fN f) p2) (opB op) e' pos) := by
  obtain ⟨cs, kk, hcs⟩ := G.lnk.cs
  refine (ps_fldaug ho.pe he.pe (in_aug op)).imp fun D σ H ⟨c, ρ, a, w⟩ => ?_
  unfold execS at w
  obtain ⟨c0, ρ0, a0, w0⟩ := WpF.step a w
  refine ⟨c0, ρ0, a0, w0.imp fun x H1 ⟨c1, d1, b1, a1, hd1, w1⟩ => ?_⟩
  split at w1
  · rename_i t C0 ht hC0
    obtain ⟨p, C, C', dx, fv, v, rfl, h1, h2, h3, h4, h5, h6⟩ := att_ok (X := X) (K := X.K) (P := Γ.P) a1.rel hd1 ht
    rw [hC0] at h6
    cases h6
    refine ⟨p, _, dx, fv, v, rfl, h1, (kk.1 _ (hcs _ C' h4)).cl, G.lnk.fld _ C' h4 f h5, h2, ?_⟩
    obtain ⟨c0, ρ0, a0, w0⟩ := WpF.step a1 w1
    refine ⟨c0, ρ0, a0, w0.imp fun z H2 ⟨c2, d2, b2, a2, hd2, w2⟩ => ?_⟩
    split at w2
    case isFalse => exact w2.elim
    rename_i hcl
    split at w2
    · split at w2
      · rename_i u hu'
        obtain ⟨ii, j, k, rfl, rfl, rfl⟩ := aug_int hu'
        cases h3
        cases hd2
        refine ⟨ii, j, k, rfl, rfl, hu', ?_⟩
        split at w2
        · rename_i st' hs
          obtain ⟨p', C2, C2', dx', fv', c', ep, g1, g2, g3, g4, b, es, ecl⟩ := setAt_ok a2.rel (DenD.mono b2.ext _ _ hd1) (v := .int k) (d := .t (.int k)) rfl hs
          cases ep
          rw [hcl] at ecl
          cases ecl
          exact ⟨dx', fv', g1, g2, w2 c' _ σ b es (EnvR.mono b.ext a2.env)⟩
        · exact w2.elim
      · exact w2.elim
    · exact w2.elim
  · exact w1.elim
/-! ### methods of lists -/
theorem changeL_ok {K : PySem.W.Frag} {c : Cfg} {H : Hp} {o : Ice.D} {x : V} {f : List Ice.D → Option (List Ice.D)} {st' : Store} (r : Rel K Γ.Λ Γ.TB c H) (ho : DenD K Γ.Λ c o x) (e : changeL c.st o f = some st') :
    ∃ k xs ys vs, o = .h k ∧ x = .ref (c.φ k) ∧ c.st[k]? = some (.lst xs) ∧ f xs = some ys ∧ st' = c.st.set k (.lst ys) ∧ H (c.φ k) = some (.lst vs) ∧ DensD K Γ.Λ c xs vs ∧
      ∀ us, DensD K Γ.Λ c ys us → After K Γ.Λ Γ.TB c H ⟨c.S, c.φ, c.st.set k (.lst ys)⟩ (upd H (c.φ k) (.lst us)) := by
  unfold changeL at e
  split at e
  · rename_i k
    split at e
    · rename_i xs hk
      obtain ⟨ys, e1, rfl⟩ := Option.map_eq_some_iff.mp e
      obtain ⟨_, rfl⟩ := ho
      obtain ⟨vs, g1, g2⟩ := (r.obj k _ hk (by intro z; cases z)).1
      refine ⟨k, xs, ys, vs, rfl, rfl, hk, e1, rfl, g1, g2, fun us hus => ?_⟩
      have ex : Ext c ⟨c.S, c.φ, c.st.set k (.lst ys)⟩ := ⟨fun _ _ h => h, fun _ _ => rfl, by simp⟩
      exact After.set (ho := .lst us) (o' := .lst ys) r hk (by intro z; cases z) (by intro z; cases z) (fun ⟨_, z⟩ => by cases z) ⟨us, rfl, DensD.mono ex ys us hus⟩
    · cases e
  · cases e
theorem tyL {K : PySem.W.Frag} {c : Cfg} {H : Hp} {o : Ice.D} {x : V} (r : Rel K Γ.Λ Γ.TB c H) (ho : DenD K Γ.Λ c o x) (h : isLst c.st o = true) : tyV K "list" x H := by
  unfold isLst at h
  split at h
  · rename_i k
    split at h
    · rename_i xs hk
      obtain ⟨_, rfl⟩ := ho
      obtain ⟨vs, g1, _⟩ := (r.obj k _ hk (by intro z; cases z)).1
      exact .inl ⟨rfl, vs, .inl (.inl g1)⟩
    · cases h
  · cases h
theorem few_ok {pos : Pos} {env : PySem.Env} {es : List Expr} (hs : noStars es = true) (hl : decide (es.length < 29) = true) : ((backTo pos (starEach es env)).all (fun x => !x.1) && (backToKw pos (keywordEach [] env)).all (fun x => x.1.isSome)
      && decide (es.length + ([] : List Keyword).length + (if ([] : List Keyword).isEmpty then 0 else 1) < 30)) = true := by
  have a1 : ∀ {es : List Expr}, noStars es = true → (backTo pos (starEach es env)).all (fun x => !x.1) = true := by
    intro es
    induction es with
    | nil => intro _; rfl
    | cons e es ih =>
      intro h
      have h1 : notStar e = true ∧ noStars es = true := by simpa [noStars] using h
      rw [star_one h1.1]
      have := ih h1.2
      simpa [backTo] using this
  rw [a1 hs]
  have := of_decide_eq_true hl
  simp [backToKw, keywordEach]
  omega
theorem snd_app {o e : Ex} {o' e' : Expr} {ap p2 : Pos} (G : Good Γ n N sc lm X E) (ho : SE Γ E X o o') (he : SE Γ E X e e') (hb : notCall o' = true) (hs : notStar e' = true) (hline : (ap.endLine == p2.line) = true) :
    S1 Γ E X (.app o e) (.Expr (.Call (.Attribute o' "append" ap) [e'] [] p2) pos) := by
  refine (ps_expr (pe_bm PySem.F.plainAttrs_list PySem.F.slot_list_append PySem.F.type_list_append mt_append ho.pe (snd_cons he snd_nil hs) (base_ok hb _ _ _) (few_ok (by simpa [noStars] using hs) rfl) hline (star_one hs [] X.env) (star_any (es := []) rfl)) (swaps_ok rfl _ _ _)).imp fun D σ H ⟨c, ρ, a, w⟩ => ?_
  unfold execS at w
  obtain ⟨c0, ρ0, a0, w0⟩ := WpF.step a w
  refine ⟨c0, ρ0, a0, w0.imp fun x H1 ⟨c1, d1, b1, a1, hd1, w1⟩ => ?_⟩
  split at w1
  case isFalse => exact w1.elim
  rename_i hl
  refine ⟨tyL a1.rel hd1 hl, ?_⟩
  have w1' : WpF X.K Γ E (Fw.of (evalEs Γ.P Γ.cf (.cons e .nil) ρ c1.st) fun ds st => (one ds some).elim Fw.no fun d => match changeL st d1 (fun xs => if fits xs.length then some (xs ++ [d]) else none) with
    | some st => .nx ρ st
    | none => .no) c1 H1 D := by
    have e1 : Fw.of (evalEs Γ.P Γ.cf (.cons e .nil) ρ c1.st) (fun ds st => (one ds some).elim Fw.no fun d => match changeL st d1 (fun xs => if fits xs.length then some (xs ++ [d]) else none) with
      | some st => .nx ρ st
      | none => .no) = Fw.of (evalE Γ.P Γ.cf e ρ c1.st) fun d st => match changeL st d1 (fun xs => if fits xs.length then some (xs ++ [d]) else none) with
      | some st => .nx ρ st
      | none => .no := by
      simp only [evalEs]
      cases evalE Γ.P Γ.cf e ρ c1.st <;> rfl
    rw [e1]
    exact w1
  obtain ⟨c0, ρ0, a0, w0⟩ := WpF.stepA a1 w1'
  refine ⟨c0, ρ0, a0, w0.imp fun vs H2 h9 => ?_⟩
  obtain ⟨c2, ds, b2, a2, hds, hlen, w2⟩ := h9
  obtain ⟨d, rfl⟩ := len1 (Γ := Γ) hlen
  obtain ⟨v, rfl, hv⟩ := one_of hds
  simp only [one, Option.elim] at w2
  split at w2
  · rename_i st' hst
    obtain ⟨k, xs, ys, us, rfl, rfl, hk, hf, rfl, g1, g2, g3⟩ := changeL_ok a2.rel (DenD.mono b2.ext _ _ hd1) hst
    split at hf
    · rename_i hfit
      cases hf
      have b3 := g3 (us ++ [v]) (DensD.append g2 ⟨v, [], rfl, hv, rfl⟩)
      exact ⟨_, us, v, rfl, rfl, g1, by rw [← g2.length]; exact fits_lt hfit, w2 _ _ σ b3 rfl (EnvR.mono b3.ext a2.env)⟩
    · cases hf
  · exact w2.elim
theorem snd_ext {o e : Ex} {o' e' : Expr} {ap p2 : Pos} (G : Good Γ n N sc lm X E) (ho : SE Γ E X o o') (he : SE Γ E X e e') (hb : notCall o' = true) (hs : notStar e' = true) (hline : (ap.endLine == p2.line) = true) :
    S1 Γ E X (.ext o e) (.Expr (.Call (.Attribute o' "extend" ap) [e'] [] p2) pos) := by
  refine (ps_expr (pe_bm PySem.F.plainAttrs_list PySem.F.slot_list_extend PySem.F.type_list_extend mt_extend ho.pe (snd_cons he snd_nil hs) (base_ok hb _ _ _) (few_ok (by simpa [noStars] using hs) rfl) hline (star_one hs [] X.env) (star_any (es := []) rfl)) (swaps_ok rfl _ _ _)).imp fun D σ H ⟨c, ρ, a, w⟩ => ?_
  unfold execS at w
  obtain ⟨c0, ρ0, a0, w0⟩ := WpF.step a w
  refine ⟨c0, ρ0, a0, w0.imp fun x H1 ⟨c1, d1, b1, a1, hd1, w1⟩ => ?_⟩
  split at w1
  case isFalse => exact w1.elim
  rename_i hl
  refine ⟨tyL a1.rel hd1 hl, ?_⟩
  have w1' : WpF X.K Γ E (Fw.of (evalEs Γ.P Γ.cf (.cons e .nil) ρ c1.st) fun ds st => (one ds some).elim Fw.no fun d => match d with
    | .t (.lst ys) => (match changeL st d1 (fun xs => if fits (xs.length + ys.length) then some (xs ++ ys.map .t) else none) with
      | some st => .nx ρ st
      | none => .no)
    | _ => .no) c1 H1 D := by
    have e1 : Fw.of (evalEs Γ.P Γ.cf (.cons e .nil) ρ c1.st) (fun ds st => (one ds some).elim Fw.no fun d => match d with
      | .t (.lst ys) => (match changeL st d1 (fun xs => if fits (xs.length + ys.length) then some (xs ++ ys.map .t) else none) with
        | some st => .nx ρ st
        | none => .no)
      | _ => .no) = Fw.of (evalE Γ.P Γ.cf e ρ c1.st) fun d st => match d with
      | .t (.lst ys) => (match changeL st d1 (fun xs => if fits (xs.length + ys.length) then some (xs ++ ys.map .t) else none) with
        | some st => .nx ρ st
        | none => .no)
      | _ => .no := by
      simp only [evalEs]
      cases evalE Γ.P Γ.cf e ρ c1.st <;> rfl
    rw [e1]
    exact w1
  obtain ⟨c0, ρ0, a0, w0⟩ := WpF.stepA a1 w1'
  refine ⟨c0, ρ0, a0, w0.imp fun vs H2 h9 => ?_⟩
  obtain ⟨c2, ds, b2, a2, hds, hlen, w2⟩ := h9
  obtain ⟨d, rfl⟩ := len1 (Γ := Γ) hlen
  obtain ⟨v, rfl, hv⟩ := one_of hds
  simp only [one, Option.elim] at w2
  split at w2
  · rename_i ys
    have hv' : Den X.K Γ.Λ c2.S (.lst ys) v := hv
    simp only [Den] at hv'
    obtain ⟨q, zs, rfl, hz1, hz2⟩ := hv'
    split at w2
    · rename_i st' hst
      obtain ⟨k, xs, ys', us, rfl, rfl, hk, hf, rfl, g1, g2, g3⟩ := changeL_ok a2.rel (DenD.mono b2.ext _ _ hd1) hst
      split at hf
      · rename_i hfit
        cases hf
        have b3 := g3 (us ++ zs) (DensD.append g2 (DensD.of hz2))
        exact ⟨_, q, us, zs, rfl, rfl, g1, a2.rel.sub _ _ hz1, by rw [← g2.length, ← hz2.length]; exact fits_line hfit, w2 _ _ σ b3 rfl (EnvR.mono b3.ext a2.env)⟩
      · cases hf
    · exact w2.elim
  · exact w2.elim
theorem snd_inst {o i e : Ex} {o' i' e' : Expr} {ap p2 : Pos} (G : Good Γ n N sc lm X E) (ho : SE Γ E X o o') (hi : SE Γ E X i i') (he : SE Γ E X e e') (hb : notCall o' = true) (hs : notStar i' = true) (hs2 : notStar e' = true) (hline : (ap.endLine == p2.line) = true) :
    S1 Γ E X (.inst o i e) (.Expr (.Call (.Attribute o' "insert" ap) [i', e'] [] p2) pos) := by
  refine (ps_expr (pe_bm PySem.F.plainAttrs_list PySem.F.slot_list_insert PySem.F.type_list_insert mt_insert ho.pe (snd_cons hi (snd_cons he snd_nil hs2) hs) (base_ok hb _ _ _) (few_ok (by simp [noStars, hs, hs2]) rfl) hline (star_one hs [e'] X.env) (star_any (es := [e']) (by simp [noStars, hs2]))) (swaps_ok rfl _ _ _)).imp fun D σ H ⟨c, ρ, a, w⟩ => ?_
  unfold execS at w
  obtain ⟨c0, ρ0, a0, w0⟩ := WpF.step a w
  refine ⟨c0, ρ0, a0, w0.imp fun x H1 ⟨c1, d1, b1, a1, hd1, w1⟩ => ?_⟩
  split at w1
  case isFalse => exact w1.elim
  rename_i hl
  refine ⟨tyL a1.rel hd1 hl, ?_⟩
  have w1' : WpF X.K Γ E (Fw.of (evalEs Γ.P Γ.cf (.cons i (.cons e .nil)) ρ c1.st) fun ds st => match ds with
    | [.t (.int 0), d] => (match changeL st d1 (fun xs => if fits xs.length then some (d :: xs) else none) with
      | some st => .nx ρ st
      | none => .no)
    | _ => .no) c1 H1 D := by
    have e1 : Fw.of (evalEs Γ.P Γ.cf (.cons i (.cons e .nil)) ρ c1.st) (fun ds st => match ds with
      | [.t (.int 0), d] => (match changeL st d1 (fun xs => if fits xs.length then some (d :: xs) else none) with
        | some st => .nx ρ st
        | none => .no)
      | _ => .no) = Fw.of (evalE Γ.P Γ.cf i ρ c1.st) fun b st => Fw.of (evalE Γ.P Γ.cf e ρ st) fun d st => match b with
      | .t (.int 0) => (match changeL st d1 (fun xs => if fits xs.length then some (d :: xs) else none) with
        | some st => .nx ρ st
        | none => .no)
      | _ => .no := by
      simp only [evalEs]
      cases evalE Γ.P Γ.cf i ρ c1.st with
      | ok b st =>
        simp only [R.bind_ok, Fw.of_ok]
        cases evalE Γ.P Γ.cf e ρ st with
        | ok d st =>
          simp only [R.bind_ok, Fw.of_ok]
          rcases b with t | k
          · rcases t with _ | _ | m | _ | _ | _ | _ | _ | _ | _ | _ <;> try rfl
            by_cases h0 : m = 0
            · subst h0; rfl
            · rcases m with (_ | m) | m
              · exact absurd rfl h0
              · rfl
              · rfl
          · rfl
        | ex _ _ => rfl
        | no => rfl
      | ex _ _ => rfl
      | no => rfl
    rw [e1]
    exact w1
  obtain ⟨c0, ρ0, a0, w0⟩ := WpF.stepA a1 w1'
  refine ⟨c0, ρ0, a0, w0.imp fun vs H2 h9 => ?_⟩
  obtain ⟨c2, ds, b2, a2, hds, hlen, w2⟩ := h9
  split at w2
  · rename_i d
    obtain ⟨v0, v, rfl, hv0, hv⟩ := two_of hds
    cases hv0
    split at w2
    · rename_i st' hst
      obtain ⟨k, xs, ys, us, rfl, rfl, hk, hf, rfl, g1, g2, g3⟩ := changeL_ok a2.rel (DenD.mono b2.ext _ _ hd1) hst
      split at hf
      · rename_i hfit
        cases hf
        have b3 := g3 (v :: us) ⟨v, us, rfl, hv, g2⟩
        exact ⟨_, us, 0, v, rfl, rfl, g1, by rw [← g2.length]; exact fits_lt hfit, by omega, by omega, w2 _ _ σ b3 rfl (EnvR.mono b3.ext a2.env)⟩
      · cases hf
    · exact w2.elim
  · exact w2.elim
end
end Ice
end

section
set_option Elab.async false
set_option linter.all false
set_option maxRecDepth 100000
set_option maxHeartbeats 4000000
namespace Ice
open PySem PySem.Spec PyProof.Rows PySem.W L2

/-! ### several clauses, each with its name -/
abbrev Cls1 := Value × (Addr → Value → Option Addr → TS)
/-- D, the name forgotten -/
def gone (i : Nat) (D : Ends) : Ends := { nx := fun σ' H' => D.nx (σ'.set i none) H', rt := D.rt, bk := fun σ' H' => D.bk (σ'.set i none) H', ct := fun σ' H' => D.ct (σ'.set i none) H' }
def wAsMany (K : PySem.W.Frag) (i : Nat) (Wout : WX) (D : Ends) : List Cls1 → WX
  | [] => Wout
  | p :: r => fun cls d σ H => ∃ b, PySem.W.exmOne K cls p.1 = some b ∧ (b = true → ∀ a, H a = none → p.2 a cls d (gone i D) (σ.set i (some (.ref a))) H) ∧ (b = false → wAsMany K i Wout D r cls d σ H)
inductive AsOk (X : Cx) (m : Str) : List ExceptHandler → List Cls1 → Prop
  | nil : AsOk X m [] []
  | cons {x : Str} {c : Value} {ts : Addr → Value → Option Addr → TS} {b₀ : Stmt} {suite : List Stmt} {np pos' : Pos} {hds : List ExceptHandler} {l : List Cls1} (hc : Names X x c)
      (hsu : ∀ (a : Addr) (oe : Obj) (cls : Value) (d : Option Addr) (pn : List (Addr × Obj)), Zc cls d oe → (∃ vs, oe.data = .fields vs) → PSs (X.suite a ((a, oe) :: pn)) (b₀ :: suite) (ts a cls d)) (r : AsOk X m hds l) :
      AsOk X m (.ExceptHandler (some (.Name x np)) (some m) (b₀ :: suite) pos' :: hds) ((c, ts) :: l)
section
variable {X : Cx} {body : List Stmt} {h₀ : ExceptHandler} {hds : List ExceptHandler} {l : List Cls1} {pos : Pos} {tb : WX → TS} {Wout : WX} {i : Nat} {m : Str}
theorem ps_try_asMany (hs : X.stack = X.env :: X.outer) (hf : X.env.frame = some X.env.locals) (hN : X.N.Nodup) (hi : X.N[i]? = some m) (hln : X.env.kindOf m = some .local) (tk : Takes X Wout)
    (hb : ∀ (W : WX) (pn : List (Addr × Obj)) (xe : Value → Shared → Prop), Takes (X.tr pn xe) W → PassesOwn (model X.prog X.w) X.A X.env xe → PSs (X.tr pn xe) body (tb W))
    (hh : AsOk X m (h₀ :: hds) l) : PS X (.Try body (h₀ :: hds) [] [] pos) (fun D σ H => tb (wAsMany X.K i Wout D l) D σ H) := by
  refine ⟨fun pins s σ H D I h => ?_⟩
  have ok := I.ok
  have hfr : X.A.frames = some (X.env :: X.outer) := by rw [ok.frames, hs]
  have hloc : Loc X.env.scope m := .inl hln
  refine wpAny_Try_except ?_
  refine wpAny_mono ((hb (wAsMany X.K i Wout D l) (X.pn ++ pins) (fun e s₁ => wpAny (model X.prog X.w) X.A (noteFrame e X.env) (fun _ s₂ => wpAny (model X.prog X.w) X.A (setFlight e none) (fun _ s₃ =>
    wpAny (model X.prog X.w) X.A (handleBy e X.env (h₀ :: hds)) (SP X pins D) X.xe s₃) X.xe s₂) X.xe s₁) (fun u s' xx => ?_) PassesOwn.looking).run [] s σ H D (I.toTry _) h) (fun f s1 hsp => ?_) (fun e s1 he => he)
  · obtain ⟨a, B, sI, pins', σ', H', cls, d, rfl, J', nb, up, sky, na, os, ag, w⟩ := xx
    have J : Inv X pins σ' H' sI := J'.ofTry ok
    have sky' : Sky B (X.env :: X.outer) a (Zc cls d) X.env.locals s'.heap := by rw [← hs]; exact sky
    show wpAny (model X.prog X.w) X.A (noteFrame (.ref a) X.env) _ _ _
    refine Sky.land Zc.steady hfr hf sky' fun h3 fl3 up3 => ?_
    have J3 : Inv X pins σ' H' { s' with heap := h3 } := J.landed nb fl3.1 (up.trans up3) os ag
    obtain ⟨oe3, vs3, he3, hz3, hd3⟩ := fl3.there
    have notFr : ∀ {h : Heap} {o : Obj} {vs : Array Value}, h.FunFrames B (X.env :: X.outer) → h.get? a = some o → o.data = .fields vs → a ∉ frs (X.env :: X.outer) := fun {h o vs} ff e dd hm => by
      obtain ⟨_, o', e', hnf⟩ := ff.mem hm
      rw [e] at e'
      cases e'
      exact hnf _ dd
    have nfr := notFr fl3.2.2.1 he3 hd3
    have nL : a ≠ X.env.locals := fun z => nfr (List.mem_filterMap.mpr ⟨X.env, List.mem_cons_self, by rw [hf, z]⟩)
    have nF : a ∉ X.fs := fun hm => by
      obtain ⟨e, he, q⟩ := List.mem_filterMap.mp hm
      exact nfr (List.mem_filterMap.mpr ⟨e, List.mem_cons_of_mem _ he, q⟩)
    have S3 := J3.suite he3 hd3 na nL nF
    have go : ∀ {hs' : List ExceptHandler} {l' : List Cls1}, AsOk X m hs' l' → wAsMany X.K i Wout D l' cls d σ' H' → wpAny (model X.prog X.w) X.A (handleBy (.ref a) X.env hs') (SP X pins D) X.xe { s' with heap := h3 } := by
      intro hs' l' hk
      induction hk with
      | nil =>
        intro w
        refine wpAny_handleBy_nil ?_
        obtain ⟨k1, k2, k3, oe, vs, T, oT, ts', he, hz, hd, h1, hr⟩ := id fl3
        unfold PySem.passOn
        refine wpAny_bind (wpAny_field he hd h1 ?_)
        rw [if_neg (show ¬ ((Value.ref T == Value.none) = true) from by simp)]
        have fin : wpAny (model X.prog X.w) X.A (setFlight (.ref a) X.env.frame) (fun _ s4 => wpAny (model X.prog X.w) X.A (throw (.ref a) : Sem Flow) (SP X pins D) X.xe s4) X.xe { s' with heap := h3 } := by
          rw [hf]
          refine HandSPX.setFlight_upZ fl3 fun h4 hh4 up4 => wpAny_throw (tk _ _ ?_)
          exact ⟨a, B, sI, pins, σ', H', cls, d, rfl, J, nb, (up.trans up3).trans up4, .inr (.inr (by rw [hs]; exact hh4)), na, os, ag, w⟩
        first
          | exact wpAny_bind (wpAny_pure (wpAny_bind fin))
          | exact wpAny_bind fin
      | @cons x c ts b₀ suite np pos' hds2 l2 hc hsu r ih =>
        intro w
        obtain ⟨b, hb1, hyes, hno⟩ := w
        refine wpAny_handleBy_cons (codeAny_handlers_test ?_) (by intro q; cases q)
        have LT : PySem.W.Looks (model X.prog X.w) h3 (typeOf (.ref a)) cls := fun A Q E s k q => wpAny_typeOf_ref (k _ _ he3) (by rw [hz3.1]; exact q)
        have LM := PySem.W.exm_one (M := model X.prog X.w) (J3.kIn) LT hb1
        have test : ∀ {Q : Value → Shared → Prop} {E : Value → Shared → Prop}, Q c { s' with heap := h3 } → wpAny (model X.prog X.w) (X.A.mark (some (.ref a))) (eval (.Name x np) X.env) Q E { s' with heap := h3 } := fun {Q E} q => by
          obtain ⟨hg, hdbg, hm | ⟨hm, hv, hnn⟩⟩ := hc
          · exact ld_glob (X := X.suite a ((a, oe3) :: (X.pn ++ pins))) S3 hg hm q hdbg
          · exact ld_blt (X := X.suite a ((a, oe3) :: (X.pn ++ pins))) S3 hg hm hv q hnn hdbg
        refine test (LM.here ?_)
        cases b with
        | true =>
          refine codeAny_handlers_suite_as ?_
          refine HandSPX.lands_againZ fl3 fun h4 fl4 up4 => ?_
          have J4 : Inv X pins σ' H' { s' with heap := h4 } := J.landed nb fl4.1 ((up.trans up3).trans up4) os ag
          obtain ⟨oe4, vs4, he4, hz4, hd4⟩ := fl4.there
          have S4 := J4.suite he4 hd4 na nL nF
          refine store_ok (X := X.suite a ((a, oe4) :: (X.pn ++ pins))) (v := .ref a) S4 hN hi hloc rfl (fun s5 S5 => ?_) (.inr hln)
          refine wpAny_mono ((hsu a oe4 cls d (X.pn ++ pins) hz4 ⟨_, hd4⟩).run [] s5 _ H' _ S5 (hyes rfl a na)) (fun f s6 hsp => ?_) (fun _ _ z => False.elim z)
          have end_ : ∀ {σ6 : L2.St} {H6 : Hp} {Q : Shared → Prop}, Inv (X.suite a ((a, oe4) :: (X.pn ++ pins))) [] σ6 H6 s6 → (∀ s7, Inv X pins (σ6.set i none) H6 s7 → Q s7) →
              wpAny (model X.prog X.w) X.A (do bindName X.env m .none; unbindBehindTheSuite X.env m pos') (fun _ s7 => Q s7) X.xe s6 := fun {σ6 H6 Q} S6 hq => gone_ok (S6.unsuite ok) hN hi hln hq
          cases f with
          | next =>
            obtain ⟨σ6, H6, S6, q6⟩ := hsp
            exact end_ S6 fun s7 J7 => ⟨_, _, J7, q6⟩
          | brk =>
            obtain ⟨σ6, H6, S6, q6⟩ := hsp
            exact end_ S6 fun s7 J7 => ⟨_, _, J7, q6⟩
          | cont =>
            obtain ⟨σ6, H6, S6, q6⟩ := hsp
            exact end_ S6 fun s7 J7 => ⟨_, _, J7, q6⟩
          | ret u =>
            obtain ⟨v6, σ6, H6, S6, r6, q6⟩ := hsp
            exact end_ S6 fun s7 J7 => ⟨_, _, _, J7, r6, q6⟩
        | false =>
          show wpAny _ X.A (handleBy (.ref a) X.env hds2) _ _ _
          exact ih (hno rfl)
    exact go hh w
  · cases f with
    | next =>
      obtain ⟨σ', H', J', q⟩ := hsp
      exact wpAny_execs_nil ⟨σ', H', J'.ofTry ok, q⟩
    | brk =>
      obtain ⟨σ', H', J', q⟩ := hsp
      exact ⟨σ', H', J'.ofTry ok, q⟩
    | cont =>
      obtain ⟨σ', H', J', q⟩ := hsp
      exact ⟨σ', H', J'.ofTry ok, q⟩
    | ret u =>
      obtain ⟨v, σ', H', J', r, q⟩ := hsp
      exact ⟨v, σ', H', J'.ofTry ok, r, q⟩
end
/-! ### raise -/
def spX (K : PySem.W.Frag) (Λ : Lay) (flds : List String) : Sp := fun vs H Q _ => match flds with
  | [f] => ∃ a C v, vs = [.ref a, v] ∧ OexC K C ∧ PySem.W.findIn K (.ref C) (Λ.fN f) = some none ∧ H a = some (exo a C none) ∧ ∀ dx, H dx = none → dx ≠ a → Q .non (upd (upd H dx (exd dx [(Λ.fN f, v)])) a (exo a C (some dx)))
  | [f, g] => ∃ a C v u, vs = [.ref a, v, u] ∧ OexC K C ∧ PySem.W.findIn K (.ref C) (Λ.fN f) = some none ∧ PySem.W.findIn K (.ref C) (Λ.fN g) = some none ∧ H a = some (exo a C none) ∧
      ∀ dx, H dx = none → dx ≠ a → Q .non (upd (upd (upd H dx (exd dx [(Λ.fN f, v)])) a (exo a C (some dx))) dx (exd dx [(Λ.fN g, u), (Λ.fN f, v)]))
  | _ => False
structure ExL (P : Program) (w : World) (K : PySem.W.Frag) (mg : Str → Option Value) (base : Heap) (Γ : Gm) (c : String) (r : ExcR) : Prop where
  T : OexC K (Γ.Λ.cA c)
  ini : ∃ fI fd ps, PySem.W.findIn K (.ref (Γ.Λ.cA c)) "__init__" = some (some (.ref fI)) ∧ PySem.W.typeIn K (.ref fI) = some (.type "function") ∧ FnOk P w K mg base (CX P w) 1 fI fd ps (spX K Γ.Λ r.flds) ∧ Binds K fd ps []
  na : ∀ f ∈ r.flds, PySem.W.findIn K (.ref (Γ.Λ.cA c)) (Γ.Λ.fN f) = some none
  mg : mg (nm c) = some (.ref (Γ.Λ.cA c))
section
variable {Γ : Gm} {E : XK} {X : Cx} {n : Nat} {N : List Str} {sc : Scope} {lm : Bool} {pos : Pos} {c c1 : Cfg} {H H1 : Hp} {ρ : Env} {σ : L2.St}
theorem del_upd {H H2 : Hp} {a dx : Addr} {o : HO} (ha : H a = none) (h : ∀ b, b ≠ a → b ≠ dx → H2 b = H b) (hne : dx ≠ a) : upd (del H2 a) dx o = upd H dx o := by
  funext b
  by_cases h1 : b = dx
  · subst h1
    rw [upd_same, upd_same]
  · rw [upd_ne h1, upd_ne h1]
    by_cases h2 : b = a
    · subst h2
      rw [del_same, ha]
    · rw [del_ne h2, h b h2 h1]
theorem snd_raise {cl : String} {es : Exs} {e : Expr} {es' : List Expr} {p pr : Pos} (G : Good Γ n N sc lm X E) (hx : ∀ r, Γ.P.exc cl = some r → ExL X.prog X.w X.K X.mg X.base Γ cl r) (hg : GlOk X.env.scope (nm cl)) (hc : (Γ.P.exc cl).isSome = true) (h : SA Γ E X es (e :: es')) (hs : noStars (e :: es') = true) :
    S1 Γ E X (.raise cl es) (.Raise (some (.Call (.Name (nm cl) p) (e :: es') [] pos)) none pr) := by
  have h1 : notStar e = true ∧ noStars es' = true := by simpa [noStars] using hs
  obtain ⟨r, hr⟩ := Option.isSome_iff_exists.mp hc
  have L := hx r hr
  obtain ⟨fI, fd, ps, i1, i2, i3, i4⟩ := L.ini
  have mk := pmk_oex (X := X) (pos := pos) (p := p) (ds := []) (dvs := []) L.T i1 i2 i3 (G.room.mono (by split <;> omega)) i4 .nil (fun _ _ _ _ _ _ _ ⟨_, _, _, _, _, _, _, _, _, _, _, _, z⟩ => z.elim) hg.gl L.mg h hg.hd (star_one h1.1 es' X.env) (star_any h1.2)
  refine (ps_raise G.calm G.tk mk).imp fun D σ H ⟨c, ρ, a, w⟩ => ?_
  unfold execS at w
  obtain ⟨c0, ρ0, a0, w0⟩ := WpF.stepA a w
  refine ⟨c0, ρ0, a0, w0.imp fun vs H1 h9 => ?_⟩
  obtain ⟨c1, ds, b1, a1, hds, -, w1⟩ := h9
  unfold mkExn at w1
  rw [hr] at w1
  dsimp only at w1
  cases ht : trees ds with
  | none => rw [ht] at w1; exact w1.elim
  | some xs =>
    rw [ht] at w1
    have hd := Dens.trees ht hds
    simp only [Option.bind_some] at w1
    have lay : ∀ {fv : List (Str × V)} {gs : List (String × T)} {d : Addr}, H1 d = none → DenFs X.K Γ.Λ c1.S gs fv → WpF X.K Γ E (.ex ⟨cl, gs⟩ c1.st) c1 H1 D → E (.ref (Γ.Λ.cA cl)) (some d) (upd H1 d (.xd fv)) := fun {fv gs d} hn hf hw =>
      hw c1 _ d ((After.refl a1.rel).noise (Free.of hn) (loose_new a1.rel hn)) rfl ⟨fv, upd_same, hf⟩
    split at w1
    · rename_i e0 he0
      split at he0
      · rename_i f x hfl
        cases he0
        obtain ⟨v, q, rfl, hv, hq⟩ := hd
        cases (show q = [] from hq)
        have na := L.na f (by rw [hfl]; simp)
        refine ⟨by simp, fun a ha => ?_⟩
        rw [hfl]
        refine ⟨a, _, v, rfl, L.T, na, upd_same, fun dx hdx hne => ⟨rfl, dx, [(Γ.Λ.fN f, v)], upd_same, by rw [upd_ne hne, upd_same], by rw [upd_ne hne] at hdx; exact hdx, ?_⟩⟩
        rw [del_upd (H := H1) ha (fun b hb hb2 => by rw [upd_ne hb, upd_ne hb2, upd_ne hb]) hne]
        exact lay (gs := [(f, x)]) (by rw [upd_ne hne] at hdx; exact hdx) ⟨v, [], rfl, hv, rfl⟩ w1
      · rename_i f g x y hfl
        cases he0
        obtain ⟨v, q, rfl, hv, hq⟩ := hd
        obtain ⟨u, q, rfl, hu, hq⟩ := hq
        cases (show q = [] from hq)
        have na := L.na f (by rw [hfl]; simp)
        have na2 := L.na g (by rw [hfl]; simp)
        refine ⟨by simp, fun a ha => ?_⟩
        rw [hfl]
        refine ⟨a, _, v, u, rfl, L.T, na, na2, upd_same, fun dx hdx hne => ⟨rfl, dx, [(Γ.Λ.fN g, u), (Γ.Λ.fN f, v)], by rw [upd_ne (Ne.symm hne), upd_same], upd_same, by rw [upd_ne hne] at hdx; exact hdx, ?_⟩⟩
        rw [del_upd (H := H1) ha (fun b hb hb2 => by rw [upd_ne hb2, upd_ne hb, upd_ne hb2, upd_ne hb]) hne]
        exact lay (gs := [(g, y), (f, x)]) (by rw [upd_ne hne] at hdx; exact hdx) ⟨u, _, rfl, hu, v, [], rfl, hv, rfl⟩ w1
      · cases he0
    · exact w1.elim
end
end Ice
end

section
set_option Elab.async false
set_option linter.all false
set_option maxRecDepth 100000
set_option maxHeartbeats 4000000
namespace Ice
open PySem PySem.Spec PyProof.Rows PySem.W L2

abbrev Hrow := String × Str × List String
/-- what a clause gives -/
def suiteR (K : PySem.W.Frag) (Λ : Lay) (w : Str) (fs : List String) (cls : Value) (d : Option Addr) (H : Hp) (Q : VK) : Prop :=
  ∃ C dd fv, cls = .ref C ∧ XfC K C ∧ (∀ f ∈ fs, PySem.W.findIn K (.ref C) (Λ.fN f) = some none) ∧ d = some dd ∧ H dd = some (.xd fv) ∧ match fs with
    | [f] => ∃ v, fv.lookup (Λ.fN f) = some v ∧ ∀ p, H p = none → Q (.ref p) (upd H p (.tup [.str w, v]))
    | [f, g] => ∃ v u, fv.lookup (Λ.fN f) = some v ∧ fv.lookup (Λ.fN g) = some u ∧ ∀ p, H p = none → ∀ q, (upd H p (.tup [v, u])) q = none → Q (.ref q) (upd (upd H p (.tup [v, u])) q (.tup [.str w, .ref p]))
    | _ => False
def chainR (K : PySem.W.Frag) (Λ : Lay) (cls : Value) (d : Option Addr) (H : Hp) (Q : VK) : List Hrow → Prop
  | [] => False
  | (C, w, fs) :: r => ∃ b, PySem.W.exmOne K cls (.ref (Λ.cA C)) = some b ∧ (b = true → suiteR K Λ w fs cls d H Q) ∧ (b = false → chainR K Λ cls d H Q r)
def emp : Str := ""
def TTref (K : PySem.W.Frag) (Λ : Lay) (hs : List Hrow) : (XK → Hp → VK → Prop) → Hp → VK → Prop := fun tl H Q => tl (fun cls d H' => chainR K Λ cls d H' Q hs) H fun _ H' => [V.str emp, V.non].length ≤ sizeLine ∧ ∀ p, H' p = none → Q (.ref p) (upd H' p (.tup [.str emp, .non]))
def attB (fN : String → Str) (m : Str) (f : String) : Expr → Bool
  | .Attribute o a _ => decide (a = fN f) && (match o with
    | .Name x _ => decide (x = m)
    | _ => false)
  | _ => false
def valB (fN : String → Str) (m : Str) : List String → Expr → Bool
  | [f], e => attB fN m f e
  | [f, g], e => match e with
    | .Tuple [a, b] _ _ => attB fN m f a && attB fN m g b
    | _ => false
  | _, _ => false
def hdB (fN : String → Str) (sg : Scope) (m : Str) (h : Hrow) : ExceptHandler → Bool
  | .ExceptHandler (some (.Name x _)) (some y) [.Return (some (.Tuple [.Constant (.str w) _ _, v] _ _)) _] _ => decide (x = nm h.1) && glB sg x && decide (y = m) && decide (w = h.2.1) && valB fN m h.2.2 v
  | _ => false
def hdsB (fN : String → Str) (sg : Scope) (m : Str) : List Hrow → List ExceptHandler → Bool
  | [], [] => true
  | h :: hs, e :: es => hdB fN sg m h e && hdsB fN sg m hs es
  | _, _ => false
def refB (fN : String → Str) (sg : Scope) (a m : Str) (hs : List Hrow) : List Stmt → Bool
  | [.Try [.Expr (.Call (.Name y _) [] [] _) _] (h :: hds) [] [] _, .Return (some (.Tuple [.Constant (.str w) _ _, .Constant .none _ _] _ _)) _] => decide (y = a) && decide (w = emp) && hdsB fN sg m hs (h :: hds)
  | _ => false
section
variable {Γ : Gm} {X : Cx} {m a : Str} {sg : Scope}
/-- the parts of a clause's text -/
theorem hdB_ok {fN : String → Str} {h : Hrow} {e : ExceptHandler} (hb : hdB fN sg m h e = true) : ∃ np j p1 v k p2 p3 p4, e = .ExceptHandler (some (.Name (nm h.1) np)) (some m) [.Return (some (.Tuple [.Constant (.str h.2.1) j p1, v] k p2)) p3] p4 ∧ GlOk sg (nm h.1) ∧ valB fN m h.2.2 v = true := by
  unfold hdB at hb
  split at hb
  · simp only [Bool.and_eq_true, decide_eq_true_eq] at hb
    obtain ⟨⟨⟨⟨rfl, hg⟩, rfl⟩, rfl⟩, hv⟩ := hb
    exact ⟨_, _, _, _, _, _, _, _, rfl, glB_ok hg, hv⟩
  · cases hb
theorem attB_ok {fN : String → Str} {f : String} {e : Expr} (h : attB fN m f e = true) : ∃ p1 p2, e = .Attribute (.Name m p1) (fN f) p2 := by
  unfold attB at h
  split at h
  · rw [Bool.and_eq_true] at h
    obtain ⟨h1, h⟩ := h
    have h1 := of_decide_eq_true h1
    split at h
    · have h2 := of_decide_eq_true h
      subst h1 h2
      exact ⟨_, _, rfl⟩
    · cases h
  · cases h
/-- the suite of a clause -/
def tsR (K : PySem.W.Frag) (Λ : Lay) (w : Str) (fs : List String) (i : Nat) : Addr → Value → Option Addr → TS := fun a cls d D σ H => σ[i]? = some (some (.ref a)) ∧ suiteR K Λ w fs cls d H D.rt
theorem suite_ok {Λ : Lay} {w : Str} {fs : List String} {v : Expr} {j k : Nat} {p1 p2 p3 : Pos} {i : Nat} (hN : X.N[i]? = some m) (hv : Vis X.env.scope m) (hd : (m == ("__debug__" : Str)) = false) (hcd : (m == ("__classdict__" : Str)) = false) (hb : valB Λ.fN m fs v = true)
    (a : Addr) (oe : Obj) (cls : Value) (d : Option Addr) (pn : List (Addr × Obj)) (hz : Zc cls d oe) (hf : ∃ vs, oe.data = .fields vs) :
    PSs (X.suite a ((a, oe) :: pn)) [.Return (some (.Tuple [.Constant (.str w) j p1, v] k p2)) p3] (tsR X.K Λ w fs i a cls d) := by
  have var : ∀ p, PE (X.suite a ((a, oe) :: pn)) (.Name m p) (tVar i) := fun p => pe_var (X := X.suite a ((a, oe) :: pn)) hN hv hd hcd
  have att : ∀ (C : Addr) (f : String) (p q : Pos), XfC X.K C → PySem.W.findIn X.K (.ref C) (Λ.fN f) = some none → PE (X.suite a ((a, oe) :: pn)) (.Attribute (.Name m p) (Λ.fN f) q) (tXf a cls d C (Λ.fN f) (tVar i)) := fun C f p q h1 h2 =>
    pe_xf (X := X) h1 h2 hz hf (var p) (base_ok rfl _ _ _)
  refine ⟨fun pins s σ H D I h9 => ?_⟩
  obtain ⟨hi, C, dd, fv, rfl, hx, hno, rfl, hdd, hm⟩ := h9
  unfold valB at hb
  split at hb
  · rename_i f
    obtain ⟨q1, q2, rfl⟩ := attB_ok hb
    obtain ⟨u, hl, hq⟩ := hm
    exact (pss_one (ps_ret (pos := p3) (pe_tup (pos := p2) (x1 := k) (pa_cons (pe_str (pos := p1) (j := j)) (pa_cons (att C f q1 q2 hx (hno f (by simp))) pa_nil))))).run pins s σ H D I ⟨_, hi, rfl, rfl, dd, fv, u, rfl, hdd, hl, by show 2 ≤ sizeLine; decide, hq⟩
  · rename_i f g
    split at hb
    · rename_i ea eb k2 pp
      rw [Bool.and_eq_true] at hb
      obtain ⟨q1, q2, rfl⟩ := attB_ok hb.1
      obtain ⟨q3, q4, rfl⟩ := attB_ok hb.2
      obtain ⟨u, u2, hl, hl2, hq⟩ := hm
      refine (pss_one (ps_ret (pos := p3) (pe_tup (pos := p2) (x1 := k) (pa_cons (pe_str (pos := p1) (j := j)) (pa_cons (pe_tup (pos := pp) (x1 := k2) (pa_cons (att C f q1 q2 hx (hno f (by simp))) (pa_cons (att C g q3 q4 hx (hno g (by simp))) pa_nil))) pa_nil))))).run pins s σ H D I ?_
      refine ⟨_, hi, rfl, rfl, dd, fv, u, rfl, hdd, hl, _, hi, rfl, rfl, dd, fv, u2, rfl, hdd, hl2, by show 2 ≤ sizeLine; decide, fun p hp => ⟨by show 2 ≤ sizeLine; decide, hq p hp⟩⟩
    · cases hb
  · cases hb
theorem asOk_of {Λ : Lay} {i : Nat} (hN : X.N[i]? = some m) (hv : Vis X.env.scope m) (hd : (m == ("__debug__" : Str)) = false) (hcd : (m == ("__classdict__" : Str)) = false) (hm : ∀ h : Hrow, True) : ∀ {hs : List Hrow} {es : List ExceptHandler}, hdsB Λ.fN X.env.scope m hs es = true → (∀ h ∈ hs, X.mg (nm h.1) = some (.ref (Λ.cA h.1))) →
    AsOk X m es (hs.map fun h => (.ref (Λ.cA h.1), tsR X.K Λ h.2.1 h.2.2 i))
  | [], [], _, _ => .nil
  | h :: hs, e :: es, hb, hmg => by
    simp only [hdsB, Bool.and_eq_true] at hb
    obtain ⟨np, j, p1, v, k, p2, p3, p4, rfl, hg, hval⟩ := hdB_ok hb.1
    exact .cons ⟨hg.gl, hg.hd, .inl (hmg h List.mem_cons_self)⟩ (suite_ok hN hv hd hcd hval) (asOk_of hN hv hd hcd hm hb.2 fun x hx => hmg x (List.mem_cons_of_mem _ hx))
  | [], _ :: _, hb, _ => by cases hb
  | _ :: _, [], hb, _ => by cases hb
theorem chain_w {K : PySem.W.Frag} {Λ : Lay} {i : Nat} {D : Ends} {Q : VK} {cls : Value} {d : Option Addr} {σ : L2.St} {H : Hp} (hi : i < σ.length) (hr : D.rt = Q) : ∀ {hs : List Hrow}, chainR K Λ cls d H Q hs → wAsMany K i (fun _ _ _ _ => False) D (hs.map fun h => (.ref (Λ.cA h.1), tsR K Λ h.2.1 h.2.2 i)) cls d σ H
  | [], h => h
  | (C, w, fs) :: r, ⟨b, h1, h2, h3⟩ => ⟨b, h1, fun hb a ha => ⟨List.getElem?_set_self hi, by show suiteR K Λ w fs cls d H D.rt; rw [hr]; exact h2 hb⟩, fun hb => chain_w hi hr (h3 hb)⟩
theorem takes_len {X : Cx} {W : WX} {k : Nat} (tk : Takes X W) (hk : X.N.length = k) : Takes X (fun cls d σ H => σ.length = k → W cls d σ H) := fun u s' ⟨a, B, sI, pins, σ, H, cls, d, e, I, nb, up, sky, na, os, ag, w⟩ =>
  tk u s' ⟨a, B, sI, pins, σ, H, cls, d, e, I, nb, up, sky, na, os, ag, w (I.len.trans hk)⟩
theorem refused_gives {x q : Str} {g : Addr} {cdg : Value} {bg : List Stmt} {hs : List Hrow} {Λ : Lay} (hN : nameB [a, m] sg 1 m = true) (hl : sg.names.lookup m = some .local) (nd : [a, m].Nodup) (hb : refB Λ.fN sg a m hs bg = true) (hmg : ∀ h ∈ hs, X.mg (nm h.1) = some (.ref (Λ.cA h.1))) :
    LamX.GivesTo X [a, m] x sg g cdg bg a q (TTref X.K Λ hs) := by
  intro f c' s H Q tl act hc h
  have no := nameB_ok hN
  unfold refB at hb
  split at hb
  · rename_i y p1 p2 p3 h0 hds p4 w j1 p5 j2 p6 k p7 p8
    simp only [Bool.and_eq_true, decide_eq_true_eq] at hb
    obtain ⟨⟨rfl, rfl⟩, hb⟩ := hb
    refine ⟨_, pss_cons (ps_try_asMany (X := (cxOf C8.CX0 X.prog X.w X.K X.mg X.base [y, m] x sg g cdg X.A X.stack s H C8.E0).nox) (i := 1) (Wout := fun _ _ _ _ => False)
      (tb := fun W D σ H => ∃ Ech : XK, (∀ cls d (σ' : L2.St) H', Ech cls d H' → σ'.length = 2 → W cls d σ' H') ∧ σ[0]? = some (some (.ref f)) ∧ H c' = some (LamX.CodeO c' q) ∧ tl Ech H fun _ H' => D.nx σ H')
      rfl rfl nd rfl hl LamX.takes0 (fun W pn xe tk _ => ?_) (asOk_of (X := (cxOf C8.CX0 X.prog X.w X.K X.mg X.base [y, m] x sg g cdg X.A X.stack s H C8.E0).nox) (i := 1) rfl no.vis no.hd no.hcd (fun _ => trivial) hb hmg))
      (pss_one (ps_ret (pe_tup (pa_cons pe_str (pa_cons pe_non pa_nil))))), ?_⟩
    · refine ⟨fun pins s' σ H' D I h' => ?_⟩
      obtain ⟨Ech, hW, h1, h2, h3⟩ := h'
      have hp := act (fun cls d σ' H' => σ'.length = 2 → W cls d σ' H') pn xe Ech p1 p2 (takes_len tk rfl) hW
      exact (pss_one (ps_expr (pos := p3) hp)).run pins s' σ H' D I ⟨h1, h2, h3⟩
    · refine ⟨fun cls d H' => chainR X.K Λ cls d H' Q hs, fun cls d σ' H' hch hl => chain_w (by omega) rfl hch, rfl, hc, h⟩
  · cases hb
end
end Ice
end

section
set_option Elab.async false
set_option linter.all false
set_option maxRecDepth 100000
set_option maxHeartbeats 4000000
namespace Ice
open PySem PySem.Spec PyProof.Rows PySem.W L2

/-- a helper that calls a lambda -/
structure LamL (K : PySem.W.Frag) (mg : Str → Option Value) (Γ : Gm) (x : String) (hs : List Hrow) : Prop where
  gl : mg (nm x) = some (.ref (Γ.Λ.fA x))
  keep : PySem.W.keepIn K (.ref (Γ.Λ.fA x)) = true
  ex : ∃ (pg : Arguments) (bg : List Stmt) (sg : Scope) (dV kV doc pm cdv ct oc : Value) (an od : Option Addr) (osl : Array (Option Value)) (a m : Str),
    K.lookup (Γ.Λ.fA x) = some ⟨oc, od, .func (PySem.W.fnOf (nm x) (nm x) pg bg sg dV kV doc pm an cdv ct), osl⟩ ∧ PySem.W.codeIn K cdv (nm x) = true ∧ Binds K (PySem.W.fnOf (nm x) (nm x) pg bg sg dV kV doc pm an cdv ct) [a] [] ∧
    FnScope [a, m] [a] sg ∧ NameOk [a, m] sg 0 a ∧ nameB [a, m] sg 1 m = true ∧ sg.names.lookup m = some .local ∧ refB Γ.Λ.fN sg a m hs bg = true
  mgs : ∀ h ∈ hs, mg (nm h.1) = some (.ref (Γ.Λ.cA h.1))
  exm : ∀ h ∈ hs, ∀ c r, Γ.P.exc c = some r → PySem.W.exmOne K (.ref (Γ.Λ.cA c)) (.ref (Γ.Λ.cA h.1)) = some (r.sup.contains h.1)
  xf : ∀ c r, Γ.P.exc c = some r → XfC K (Γ.Λ.cA c)
  na : ∀ h ∈ hs, ∀ f ∈ h.2.2, ∀ c r, Γ.P.exc c = some r → PySem.W.findIn K (.ref (Γ.Λ.cA c)) (Γ.Λ.fN f) = some none
/-- the code of a def that makes lambdas, its table -/
structure LamI (Γ : Gm) (X : Cx) : Prop where
  ex : ∃ c P, LamX.TabB X.base X.mg c P ∧ X.env.code = .ref c ∧ (P, X.env.qual ++ "<lambda>") ∈ Γ.TB ∧ ∀ p ∈ Γ.TB, p.1 = P → p.2 = X.env.qual ++ "<lambda>"
section
variable {Γ : Gm} {E : XK} {X : Cx} {n : Nat} {N : List Str} {sc : Scope} {lm : Bool} {pos : Pos} {c c1 : Cfg} {H H1 : Hp} {ρ : Env} {σ : L2.St} {K : PySem.W.Frag}
theorem handle_some {P : Tab} {e : Exn} {st : Store} : ∀ {hs : List Hrow}, handle P e st hs ≠ .no → ∃ r, P.exc e.cls = some r
  | [], h => absurd rfl h
  | (cl, w, fs) :: r, h => by
    unfold handle at h
    split at h
    · rename_i hs
      unfold isSub at hs
      split at hs
      · exact ⟨_, ‹_›⟩
      · cases hs
    · exact handle_some h
theorem handle_ok {x : String} {e : Exn} {st : Store} {c' : Cfg} {H' : Hp} {d : Addr} {Q : V → Hp → Prop} {r : ExcR} {mgf : Str → Option Value} {all : List Hrow} (L : LamL K mgf Γ x all) (hr : Γ.P.exc e.cls = some r) (b : After K Γ.Λ Γ.TB c H c' H') (es : c'.st = st) (hx : ExnR K Γ.Λ c' H' d e) :
    ∀ {hs : List Hrow}, (∀ h ∈ hs, h ∈ all) → WpG K Γ E (handle Γ.P e st hs) c H (DenD K Γ.Λ) Q → chainR K Γ.Λ (.ref (Γ.Λ.cA e.cls)) (some d) H' Q hs
  | [], _, w => w.elim
  | (cl, wd, fs) :: t, hm, w => by
    have hin := hm _ List.mem_cons_self
    refine ⟨r.sup.contains cl, L.exm _ hin e.cls r hr, fun hb => ?_, fun hb => ?_⟩
    · unfold handle at w
      have hs : isSub Γ.P e.cls cl = true := by unfold isSub; rw [hr]; exact hb
      rw [if_pos hs] at w
      obtain ⟨fv, x1, x2⟩ := hx
      refine ⟨_, d, fv, rfl, L.xf e.cls r hr, fun f hf => L.na _ hin f hf e.cls r hr, rfl, x1, ?_⟩
      unfold tellH at w
      split at w
      · rename_i f
        have q := DenFs.lookup (f := f) x2
        cases hl : e.fs.lookup f with
        | none => rw [hl] at w; exact w.elim
        | some v =>
          rw [hl] at w q
          obtain ⟨u, q1, q2⟩ := q
          refine ⟨u, q1, fun p hp => ?_⟩
          have o : Out K Γ.Λ Γ.TB c' H' (.tup [.str wd, v]) Q := fun c2 H2 v2 b2 e2 d2 => w c2 H2 v2 (b.trans b2) (e2.trans es) d2
          exact o.tup b.rel ⟨.str wd, [u], rfl, rfl, u, [], rfl, q2, rfl⟩ hp
      · rename_i f g
        have q := DenFs.lookup (f := f) x2
        have q' := DenFs.lookup (f := g) x2
        cases hl : e.fs.lookup f with
        | none => rw [hl] at w; exact w.elim
        | some v =>
          cases hl2 : e.fs.lookup g with
          | none => rw [hl, hl2] at w; exact w.elim
          | some v' =>
            rw [hl] at q
            rw [hl2] at q'
            rw [hl, hl2] at w
            obtain ⟨u, q1, q2⟩ := q
            obtain ⟨u', q1', q2'⟩ := q'
            refine ⟨u, u', q1, q1', fun p hp p2 hp2 => ?_⟩
            have b2 := After.new (o := .tup [u, u']) b.rel hp (fun ⟨_, z⟩ => by cases z)
            have o : Out K Γ.Λ Γ.TB ⟨upd c'.S p (.tup [u, u']), c'.φ, c'.st⟩ (upd H' p (.tup [u, u'])) (.tup [.str wd, .tup [v, v']]) Q := fun c2 H2 v2 b3 e2 d2 => w c2 H2 v2 ((b.trans b2).trans b3) (e2.trans es) d2
            refine o.tup b2.rel ⟨.str wd, [.ref p], rfl, rfl, .ref p, [], rfl, ?_, rfl⟩ hp2
            simp only [Den]
            exact ⟨p, [u, u'], rfl, upd_same, u, [u'], rfl, Den.mono b2.sub v u q2, u', [], rfl, Den.mono b2.sub v' u' q2', rfl⟩
      · exact w.elim
    · unfold handle at w
      have hs : isSub Γ.P e.cls cl = false := by unfold isSub; rw [hr]; exact hb
      rw [if_neg (by rw [hs]; decide)] at w
      exact handle_ok L hr b es hx (fun h hh => hm h (List.mem_cons_of_mem _ hh)) w
/-- the heap where the tables grew -/
theorem Rel.extN (r : Rel K Γ.Λ Γ.TB c H) (e : LamX.ExtN H H1) (t : LamX.Tabs Γ.TB H1) : Rel K Γ.Λ Γ.TB c H1 := by
  refine ⟨fun a o h => e a o (r.sub a o h) fun ps z => r.not a ps (by rw [← z]; exact h), r.not, fun k o h1 h2 => ?_, r.inj, t⟩
  obtain ⟨q1, q2⟩ := r.obj k o h1 h2
  obtain ⟨u, hu, nt⟩ := ObjR.some_of q1 h2
  refine ⟨?_, q2⟩
  rw [e _ u hu fun ps z => nt ⟨ps, z⟩, ← hu]
  exact q1
theorem After.extN (r : Rel K Γ.Λ Γ.TB c H) (e : LamX.ExtN H H1) (t : LamX.Tabs Γ.TB H1) : After K Γ.Λ Γ.TB c H c H1 :=
  ⟨fun _ _ h => h, fun _ _ => rfl, Nat.le_refl _, fun a o h nt _ => e a o h fun ps z => nt ⟨ps, z⟩, fun a o h nt => ⟨o, e a o h fun ps z => nt ⟨ps, z⟩, nt⟩, fun k hk hl => absurd hl.lt (Nat.not_lt.mpr hk), fun _ h => h, fun a o h n => (by rw [h] at n; cases n), r.extN e t⟩
theorem lam_read {x : String} {hs : List Hrow} {b : Ex} (L : LamL X.K X.mg Γ x hs) (hl : Γ.P.lam x = some (.refused hs)) : ∀ σ H Q, rE X.K Γ E (.lam x b) σ H Q → LamX.tLam Γ.TB (TTref X.K Γ.Λ hs) (fun E' => rE X.K Γ E' b) σ H Q := fun σ H Q ⟨c, ρ, a, w⟩ => by
  unfold evalE at w
  rw [hl] at w
  dsimp only at w
  refine ⟨a.rel.tab, fun H1 en tb => ?_⟩
  have b1 := After.extN a.rel en tb
  refine ⟨c, ρ, a.move b1, ?_⟩
  have w' : WpG X.K Γ E (lamD Γ.P (.refused hs) (evalE Γ.P Γ.cf b ρ c.st)) c H1 (DenD X.K Γ.Λ) Q := Wp.move w b1
  cases q : evalE Γ.P Γ.cf b ρ c.st with
  | no => rw [q] at w'; exact w'
  | ok d st =>
    rw [q] at w'
    intro c' H' v b2 es hd
    refine ⟨by show 2 ≤ sizeLine; decide, fun p hp => ?_⟩
    have o : Out X.K Γ.Λ Γ.TB c' H' (.tup [.str emp, .non]) Q := fun c2 H2 v2 b3 e2 d2 => w' c2 H2 v2 (b2.trans b3) (e2.trans es) d2
    exact o.tup b2.rel ⟨.str emp, [.non], rfl, rfl, .non, [], rfl, rfl, rfl⟩ hp
  | ex e st =>
    rw [q] at w'
    intro c' H' d b2 es hx
    have wh : WpG X.K Γ E (handle Γ.P e st hs) c H1 (DenD X.K Γ.Λ) Q := w'
    obtain ⟨r, hr⟩ := handle_some (P := Γ.P) (e := e) (st := st) (hs := hs) fun z => by rw [z] at wh; exact wh
    exact handle_ok L hr b2 es hx (fun _ h => h) wh
def noParams : Arguments → Bool
  | ⟨[], [], none, [], [], none, []⟩ => true
  | _ => false
theorem snd_lam {x : String} {hs : List Hrow} {b : Ex} {params : Arguments} {body : Expr} {scope : Scope} {p lpos : Pos} (G : Good Γ n N sc false X E) (I : LamI Γ X) (L : LamL X.K X.mg Γ x hs) (hl : Γ.P.lam x = some (.refused hs)) (hg : GlOk X.env.scope (nm x)) (hp : noParams params = true) (hsc : LamX.lamSB X.env.scope scope = true)
    (hb : ∀ (X' : Cx) (E' : XK), X'.prog = X.prog ∧ X'.w = X.w ∧ X'.K = X.K ∧ X'.mg = X.mg ∧ X'.base = X.base → Good Γ n N scope true X' E' → SE Γ E' X' b body) : SE Γ E X (.lam x b) (.Call (.Name (nm x) p) [.Lambda params body scope lpos] [] pos) := by
  obtain ⟨pg, bg, sg, dV, kV, doc, pm, cdv, ct, oc, an, od, osl, a, m, lk, hcd, hbd, hS, ha, hm, hloc, hr⟩ := L.ex
  obtain ⟨co, Pt, i1, i2, i3, i4⟩ := I.ex
  have hpar : params = ⟨[], [], none, [], [], none, []⟩ := by
    unfold noParams at hp
    split at hp
    · rfl
    · cases hp
  subst hpar
  refine SE.of ((LamX.pe_lamcall (X := X) (T := Γ.TB) (t := fun E' => rE X.K Γ E' b) (k := lev n + 2) hg.gl L.gl L.keep lk hcd hbd hS rfl ha.vis (refused_gives hm hloc hS.nd hr L.mgs) i1 i2 i3 i4 (G.room.mono (by simp)) (LamX.lamS_by hsc) rfl (fun _ _ _ _ _ => rfl)
    (fun A outer s H E' f c' hroom => (hb (LamX.lamCx X A outer s H E' scope f c') E' ⟨rfl, rfl, rfl, rfl, rfl⟩ ⟨G.hN, G.nd, rfl, rfl, hroom, takes_of rfl rfl rfl rfl, passes_of rfl, G.lnk⟩).pe) hg.hd ha.hd ha.hcd).imp (lam_read L hl)) rfl
end
end Ice
end

section
set_option Elab.async false
set_option linter.all false
set_option maxRecDepth 100000
set_option maxHeartbeats 4000000
namespace Ice
open PySem PySem.Spec PyProof.Rows PySem.W L2

/-- the facts of the text that do not turn on the depth -/
structure Lnk2 (P : Program) (w : World) (K : PySem.W.Frag) (mg : Str → Option Value) (base : Heap) (Γ : Gm) : Prop where
  mks : ∀ c C, Γ.P.cls c = some C → Mk K (Γ.Λ.cA c) (Γ.Λ.fA C.init)
  exc : ∀ c r, Γ.P.exc c = some r → ExL P w K mg base Γ c r
  lam : ∀ x hs, Γ.P.lam x = some (.refused hs) → LamL K mg Γ x hs
abbrev LkX (Γ : Gm) (X : Cx) : Prop := Lnk2 X.prog X.w X.K X.mg X.base Γ
structure Mt where
  N : List Str
  fN : String → Str
  P : Tab
def tgB (N : List Str) (sc : Scope) (i : Nat) (x : Str) : Bool := decide (N[i]? = some x) && (decide (sc.names.lookup x = some .local) || decide (sc.names.lookup x = some .cell))
def ownP (N : List Str) (own : List Nat) : List (Str × Nat) := own.map fun i => ((N[i]?).getD Str.empty, i)
def isNilEs : Exs → Bool
  | .nil => true
  | _ => false
mutual
def mtE (m : Mt) : Ex → Bool → Scope → Expr → Bool
  | .var i, _, sc, e => match e with
    | .Name x _ => nameB m.N sc i x
    | _ => false
  | .lit v, _, _, e => match e with
    | .Constant k _ _ => constB v k
    | _ => false
  | .glb x, _, sc, e => match e with
    | .Name y _ => decide (y = nm x) && glB sc y
    | _ => false
  | .bin o a b, l, sc, e => match e with
    | .BinOp x op y _ => decide (op = opB o) && mtE m a l sc x && mtE m b l sc y
    | _ => false
  | .neg a, l, sc, e => match e with
    | .UnaryOp op x _ => decide (op = .USub) && mtE m a l sc x
    | _ => false
  | .nt a, l, sc, e => match e with
    | .UnaryOp op x _ => decide (op = .Not) && mtE m a l sc x
    | _ => false
  | .and2 a b, l, sc, e => match e with
    | .BoolOp op (x :: y :: r) p => decide (op = .And) && mtE m a l sc x && (match r with
      | [] => mtE m b l sc y
      | z :: r => mtE m b l sc (.BoolOp .And (y :: z :: r) p))
    | _ => false
  | .or2 a b, l, sc, e => match e with
    | .BoolOp op (x :: y :: r) p => decide (op = .Or) && mtE m a l sc x && (match r with
      | [] => mtE m b l sc y
      | z :: r => mtE m b l sc (.BoolOp .Or (y :: z :: r) p))
    | _ => false
  | .ite c a b, l, sc, e => match e with
    | .IfExp x y z _ => mtE m c l sc x && mtE m a l sc y && mtE m b l sc z
    | _ => false
  | .cmp o a b, l, sc, e => match e with
    | .Compare x [op] [y] _ => decide (op = opC o) && notSet y && mtE m a l sc x && mtE m b l sc y
    | _ => false
  | .chain o p a b c, l, sc, e => match e with
    | .Compare x [op, op2] [y, z] _ => decide (op = opC o) && decide (op2 = opC p) && notSet z && mtE m a l sc x && mtE m b l sc y && mtE m c l sc z
    | _ => false
  | .tup es, l, sc, e => match e with
    | .Tuple xs _ _ => mtEs m es l sc xs
    | _ => false
  | .fr f, l, sc, e => testPlain e && mtL m f l sc e
  | .mu f, l, sc, e => testPlain e && mtL m f l sc e
  | .mud, _, _, e => match e with
    | .Dict [] [] _ => true
    | _ => false
  | .sub a i, l, sc, e => match e with
    | .Subscript x y _ => notSlice y && mtE m a l sc x && mtE m i l sc y
    | _ => false
  | .cut a lo hi, l, sc, e => match e with
    | .Subscript x (.Slice y z none _) _ => mtE m a l sc x && mtO m lo l sc y && mtO m hi l sc z
    | _ => false
  | .rev a, l, sc, e => match e with
    | .Subscript x (.Slice none none (some y) _) _ => mtE m a l sc x && isM1 y
    | _ => false
  | .call f es, l, sc, e => match e with
    | .Call (.Name y _) xs [] _ => decide (y = nm f) && glB sc y && (m.P.fn f).isSome && !dotted f && noStars xs && mtEs m es l sc xs
    | _ => false
  | .calv i es, l, sc, e => match e with
    | .Call (.Name y _) xs [] _ => nameB m.N sc i y && noStars xs && mtEs m es l sc xs
    | _ => false
  | .new c es, l, sc, e => match e with
    | .Call (.Name y _) (x :: xs) [] _ => decide (y = nm c) && glB sc y && (m.P.cls c).isSome && noStars (x :: xs) && mtEs m es l sc (x :: xs)
    | _ => false
  | .bi b es, l, sc, e => match e with
    | .Call (.Name y _) (x :: xs) [] _ => decide (y = biName b) && glB sc y && (biOk b || (l && decide (b = .repr))) && noStars (x :: xs) && mtEs m es l sc (x :: xs)
    | _ => false
  | .bik b a d, l, sc, e => match e with
    | .Call (.Name y _) [x] [⟨some k, z, _⟩] _ => decide (b = .max) && decide (y = "max") && glB sc y && decide (k = Str.ofString "default") && notStar x && mtE m a l sc x && mtE m d l sc z
    | _ => false
  | .isi a cs, l, sc, e => match e with
    | .Call (.Name y _) [x, z] [] _ => decide (y = "isinstance") && glB sc y && notStar x && mtE m a l sc x && (match cs with
      | [c] => tyB m.P sc c z
      | cs => match z with
        | .Tuple zs _ _ => tysB m.P sc cs zs && decide (cs.length ≤ 1000)
        | _ => false)
    | _ => false
  | .att a f, l, sc, e => match e with
    | .Attribute x y _ => decide (y = m.fN f) && notCall x && mtE m a l sc x
    | _ => false
  | .meth a f es, l, sc, e => match e with
    | .Call (.Attribute x y ap) xs [] p => decide (y = m.fN f) && notCall x && mtE m a l sc x && noStars xs && mtEs m es l sc xs && decide (xs.length < 29) && (ap.endLine == p.line)
    | _ => false
  | .lam f b, l, sc, e => match e with
    | .Call (.Name y _) [.Lambda ps body scope _] [] _ => l && decide (y = nm f) && glB sc y && (match m.P.lam f with
      | some (.refused _) => true
      | _ => false) && noParams ps && LamX.lamSB sc scope && mtE m b false scope body
    | _ => false
def mtEs (m : Mt) : Exs → Bool → Scope → List Expr → Bool
  | .nil, _, _, es => match es with
    | [] => true
    | _ => false
  | .cons a r, l, sc, es => match es with
    | x :: xs => notStar x && mtE m a l sc x && mtEs m r l sc xs
    | _ => false
  | .star a r, l, sc, es => match es with
    | .Starred x _ :: xs => mtE m a l sc x && mtEs m r l sc xs
    | _ => false
def mtO (m : Mt) : Ox → Bool → Scope → Option Expr → Bool
  | .non, _, _, e => match e with
    | none => true
    | _ => false
  | .som a, l, sc, e => match e with
    | some x => mtE m a l sc x
    | _ => false
def mtC (m : Mt) : Ox → Scope → List Expr → Bool
  | .non, _, e => match e with
    | [] => true
    | _ => false
  | .som a, sc, e => match e with
    | [x] => mtE m a false sc x
    | _ => false
def mtL (m : Mt) : Fl → Bool → Scope → Expr → Bool
  | .disp es, l, sc, e => match e with
    | .List xs _ => mtEs m es l sc xs
    | _ => false
  | .comp elt tg src cond own, l, sc, e => match e with
    | .ListComp elt' [⟨tg', it', ifs, z⟩] scope _ => decide (z = 0) && notSet it' && mtI m src l sc tg' it' && blkC m.N sc scope (ownP m.N own) && mtTg (tgB m.N scope) tg tg' && mtC m cond (relS scope sc) ifs && mtE m elt false (relS scope sc) elt' && (tgIx tg).all (fun i => own.contains i)
    | _ => false
  | .ofIt s, l, sc, e => match e with
    | .Call (.Name y _) [x] [] _ => decide (y = "list") && glB sc y && notStar x && mtIt m s l sc x
    | _ => false
  | .rep a b, l, sc, e => match e with
    | .BinOp (.List [x] _) op y _ => decide (op = .Mult) && notStar x && mtE m a l sc x && mtE m b l sc y
    | _ => false
  | .cat a b, l, sc, e => match e with
    | .BinOp x op y _ => decide (op = .Add) && mtE m a l sc x && mtE m b l sc y
    | _ => false
def mtIt (m : Mt) : Src → Bool → Scope → Expr → Bool
  | .it a, l, sc, e => mtE m a l sc e
  | .range (.cons a .nil), l, sc, e => match e with
    | .Call (.Name y _) [x] [] _ => decide (y = "range") && glB sc y && notStar x && mtE m a l sc x
    | _ => false
  | _, _, _, _ => false
def mtI (m : Mt) : Src → Bool → Scope → Expr → Expr → Bool
  | .it a, l, sc, _, e => mtE m a l sc e
  | .range es, l, sc, _, e => match e with
    | .Call (.Name y _) xs [] _ => decide (y = "range") && glB sc y && decide (1 ≤ xs.length ∧ xs.length ≤ 3) && noStars xs && mtEs m es l sc xs
    | _ => false
  | .enum a, l, sc, tg, e => match tg, e with
    | .Tuple _ _ _, .Call (.Name y _) [x] [] _ => decide (y = "enumerate") && glB sc y && notStar x && mtE m a l sc x
    | _, _ => false
  | .zip a b, l, sc, tg, e => match tg, e with
    | .Tuple _ _ _, .Call (.Name y _) [x, z] [] _ => decide (y = "zip") && glB sc y && notStar x && notStar z && mtE m a l sc x && mtE m b l sc z
    | _, _ => false
end
end Ice
end

section
set_option Elab.async false
set_option linter.all false
set_option maxRecDepth 100000
set_option maxHeartbeats 4000000
namespace Ice
open PySem PySem.Spec PyProof.Rows PySem.W L2

structure Ctx (m : Mt) (Γ : Gm) (n : Nat) (sc : Scope) (lm l : Bool) (X : Cx) (E : XK) : Prop where
  G : Good Γ n m.N sc lm X E
  fN : m.fN = Γ.Λ.fN
  P : m.P = Γ.P
  L : LkX Γ X
  lam : l = true → lm = false ∧ LamI Γ X ∧ X.A.guards = some []
section
variable {m : Mt} {Γ : Gm} {n : Nat} {sc : Scope} {lm l : Bool} {X : Cx} {E : XK}
theorem Ctx.name (C : Ctx m Γ n sc lm l X E) {i : Nat} {x : Str} (h : nameB m.N sc i x = true) : NameOk X.N X.env.scope i x := by
  rw [C.G.hN, C.G.hsc]
  exact nameB_ok h
theorem Ctx.gl (C : Ctx m Γ n sc lm l X E) {x : Str} (h : glB sc x = true) : GlOk X.env.scope x := by
  rw [C.G.hsc]
  exact glB_ok h
theorem Ctx.blk (C : Ctx m Γ n sc lm l X E) (s : Shared) (H : Hp) (scope : Scope) (Ca : Addr) (cl : List (Str × Addr)) (fp : List Addr) : Ctx m Γ n (relS scope sc) lm false (X.blk s H scope (compEnvC scope cl Ca X.env) fp) EF where
  G := ⟨C.G.hN, C.G.nd, by rw [← C.G.hsc]; rfl, C.G.calm, C.G.room, takes_none5, PassesOwn.never, C.G.lnk⟩
  fN := C.fN
  P := C.P
  L := C.L
  lam := fun h => by cases h
theorem tg_blk (C : Ctx m Γ n sc lm l X E) (s : Shared) (H : Hp) (scope : Scope) (Ca : Addr) (cl : List (Str × Addr)) (fp : List Addr) {i : Nat} {x : Str} (h : tgB m.N scope i x = true) : TgOk (X.blk s H scope (compEnvC scope cl Ca X.env) fp) i x := by
  unfold tgB at h
  simp only [Bool.and_eq_true, Bool.or_eq_true, decide_eq_true_eq] at h
  have e : (X.blk s H scope (compEnvC scope cl Ca X.env) fp).env.scope = relS scope X.env.scope := rfl
  refine ⟨by show X.N[i]? = _; rw [C.G.hN]; exact h.1, ?_, ?_⟩
  · rw [e]
    rcases h.2 with q | q
    · exact .inl (lookup_relS_keep (by decide) q)
    · exact .inr (lookup_relS_keep (by decide) q)
  · rcases h.2 with q | q
    · exact .inr (by rw [e]; exact lookup_relS_keep (by decide) q)
    · exact .inl (by show (scope.names.lookup x == some .cell) = true; rw [q]; rfl)
theorem ownP_map (N : List Str) (own : List Nat) : (ownP N own).map (·.2) = own := by
  unfold ownP
  rw [List.map_map]
  have : ((fun x => x.2) ∘ fun i => ((N[i]?).getD Str.empty, i)) = (id : Nat → Nat) := rfl
  rw [this, List.map_id]
theorem es_nil {es : Exs} {sc : Scope} (h : mtEs m es l sc [] = true) : es = .nil := by
  cases es with
  | nil => rfl
  | cons a r => simp [mtEs] at h
  | star a r => simp [mtEs] at h
theorem es_cons {es : Exs} {sc : Scope} {x : Expr} {xs : List Expr} (hn : notStar x = true) (h : mtEs m es l sc (x :: xs) = true) : ∃ a r, es = .cons a r ∧ notStar x = true ∧ mtE m a l sc x = true ∧ mtEs m r l sc xs = true := by
  cases es with
  | nil => simp [mtEs] at h
  | cons a r =>
    simp only [mtEs, Bool.and_eq_true] at h
    exact ⟨a, r, rfl, h.1.1, h.1.2, h.2⟩
  | star a r => cases x <;> first | (simp [mtEs] at h; done) | cases hn
end
mutual
theorem sndE {m : Mt} {Γ : Gm} {n : Nat} {lm : Bool} : ∀ (e : Ex) (l : Bool) (sc : Scope) (X : Cx) (E : XK) (e' : Expr), Ctx m Γ n sc lm l X E → mtE m e l sc e' = true → SE Γ E X e e'
  | .var i, l, sc, X, E, e', C, h => by
    cases e' with
    | Name x p => exact snd_var (C.name h)
    | _ => simp [mtE] at h
  | .lit v, l, sc, X, E, e', C, h => by
    cases e' with
    | Constant k j p => exact snd_const h
    | _ => simp [mtE] at h
  | .glb x, l, sc, X, E, e', C, h => by
    cases e' with
    | Name y p =>
      simp only [mtE, Bool.and_eq_true, decide_eq_true_eq] at h
      obtain ⟨rfl, h⟩ := h
      exact snd_glb C.G (C.gl h)
    | _ => simp [mtE] at h
  | .bin o a b, l, sc, X, E, e', C, h => by
    cases e' with
    | BinOp x op y p =>
      simp only [mtE, Bool.and_eq_true, decide_eq_true_eq] at h
      obtain ⟨⟨rfl, h1⟩, h2⟩ := h
      exact snd_bin (sndE a l sc X E x C h1) (sndE b l sc X E y C h2)
    | _ => simp [mtE] at h
  | .neg a, l, sc, X, E, e', C, h => by
    cases e' with
    | UnaryOp op x p =>
      simp only [mtE, Bool.and_eq_true, decide_eq_true_eq] at h
      obtain ⟨rfl, h1⟩ := h
      exact snd_neg (sndE a l sc X E x C h1)
    | _ => simp [mtE] at h
  | .nt a, l, sc, X, E, e', C, h => by
    cases e' with
    | UnaryOp op x p =>
      simp only [mtE, Bool.and_eq_true, decide_eq_true_eq] at h
      obtain ⟨rfl, h1⟩ := h
      exact snd_nt (sndE a l sc X E x C h1)
    | _ => simp [mtE] at h
  | .and2 a b, l, sc, X, E, e', C, h => by
    cases e' with
    | BoolOp op vs p =>
      rcases vs with _ | ⟨x, _ | ⟨y, _ | ⟨z, r⟩⟩⟩
      · simp [mtE] at h
      · simp [mtE] at h
      · simp only [mtE, Bool.and_eq_true, decide_eq_true_eq] at h
        obtain ⟨⟨rfl, h1⟩, h2⟩ := h
        exact snd_and1 (sndE a l sc X E x C h1) (sndE b l sc X E y C h2)
      · simp only [mtE, Bool.and_eq_true, decide_eq_true_eq] at h
        obtain ⟨⟨rfl, h1⟩, h2⟩ := h
        exact snd_and (sndE a l sc X E x C h1) (sndE b l sc X E _ C h2)
    | _ => simp [mtE] at h
  | .or2 a b, l, sc, X, E, e', C, h => by
    cases e' with
    | BoolOp op vs p =>
      rcases vs with _ | ⟨x, _ | ⟨y, _ | ⟨z, r⟩⟩⟩
      · simp [mtE] at h
      · simp [mtE] at h
      · simp only [mtE, Bool.and_eq_true, decide_eq_true_eq] at h
        obtain ⟨⟨rfl, h1⟩, h2⟩ := h
        exact snd_or1 (sndE a l sc X E x C h1) (sndE b l sc X E y C h2)
      · simp only [mtE, Bool.and_eq_true, decide_eq_true_eq] at h
        obtain ⟨⟨rfl, h1⟩, h2⟩ := h
        exact snd_or (sndE a l sc X E x C h1) (sndE b l sc X E _ C h2)
    | _ => simp [mtE] at h
  | .ite c a b, l, sc, X, E, e', C, h => by
    cases e' with
    | IfExp x y z p =>
      simp only [mtE, Bool.and_eq_true] at h
      exact snd_ite (sndE c l sc X E x C h.1.1) (sndE a l sc X E y C h.1.2) (sndE b l sc X E z C h.2)
    | _ => simp [mtE] at h
  | .cmp o a b, l, sc, X, E, e', C, h => by
    cases e' with
    | Compare x ops ys p =>
      rcases ops with _ | ⟨op, _ | ⟨op2, r⟩⟩
      · simp [mtE] at h
      · rcases ys with _ | ⟨y, _ | ⟨y2, r⟩⟩
        · simp [mtE] at h
        · simp only [mtE, Bool.and_eq_true, decide_eq_true_eq] at h
          obtain ⟨⟨⟨rfl, h1⟩, h2⟩, h3⟩ := h
          exact snd_cmp C.G (sndE a l sc X E x C h2) (sndE b l sc X E y C h3) h1
        · simp [mtE] at h
      · simp [mtE] at h
    | _ => simp [mtE] at h
  | .chain o p a b c, l, sc, X, E, e', C, h => by
    cases e' with
    | Compare x ops ys p =>
      rcases ops with _ | ⟨op, _ | ⟨op2, _ | ⟨op3, r⟩⟩⟩
      · simp [mtE] at h
      · simp [mtE] at h
      · rcases ys with _ | ⟨y, _ | ⟨y2, _ | ⟨y3, r⟩⟩⟩
        · simp [mtE] at h
        · simp [mtE] at h
        · simp only [mtE, Bool.and_eq_true, decide_eq_true_eq] at h
          obtain ⟨⟨⟨⟨⟨rfl, rfl⟩, h1⟩, h2⟩, h3⟩, h4⟩ := h
          exact snd_chain C.G (sndE a l sc X E x C h2) (sndE b l sc X E y C h3) (sndE c l sc X E y2 C h4) h1
        · simp [mtE] at h
      · simp [mtE] at h
    | _ => simp [mtE] at h
  | .tup es, l, sc, X, E, e', C, h => by
    cases e' with
    | Tuple xs k p =>
      simp only [mtE] at h
      exact snd_tup (sndEs es l sc X E xs C h)
    | _ => simp [mtE] at h
  | .fr f, l, sc, X, E, e', C, h => by
    simp only [mtE, Bool.and_eq_true] at h
    exact snd_fr h.1 (sndL f l sc X E e' C h.2)
  | .mu f, l, sc, X, E, e', C, h => by
    simp only [mtE, Bool.and_eq_true] at h
    exact snd_mu h.1 (sndL f l sc X E e' C h.2)
  | .mud, l, sc, X, E, e', C, h => by
    cases e' with
    | Dict ks vs p =>
      rcases ks with _ | ⟨k, ks⟩
      · rcases vs with _ | ⟨v, vs⟩
        · exact snd_mud
        · simp [mtE] at h
      · simp [mtE] at h
    | _ => simp [mtE] at h
  | .sub a i, l, sc, X, E, e', C, h => by
    cases e' with
    | Subscript x y p =>
      simp only [mtE, Bool.and_eq_true] at h
      exact snd_sub C.G (sndE a l sc X E x C h.1.2) (sndE i l sc X E y C h.2) h.1.1
    | _ => simp [mtE] at h
  | .cut a lo hi, l, sc, X, E, e', C, h => by
    cases e' with
    | Subscript x s p =>
      cases s with
      | Slice y z u p2 =>
        cases u with
        | none =>
          simp only [mtE, Bool.and_eq_true] at h
          exact snd_cut (sndE a l sc X E x C h.1.1) (sndO lo l sc X E y C h.1.2) (sndO hi l sc X E z C h.2)
        | some u => simp [mtE] at h
      | _ => simp [mtE] at h
    | _ => simp [mtE] at h
  | .rev a, l, sc, X, E, e', C, h => by
    cases e' with
    | Subscript x s p =>
      cases s with
      | Slice y z u p2 =>
        cases y with
        | some _ => simp [mtE] at h
        | none =>
          cases z with
          | some _ => simp [mtE] at h
          | none =>
            cases u with
            | none => simp [mtE] at h
            | some u =>
              simp only [mtE, Bool.and_eq_true] at h
              exact snd_rev (sndE a l sc X E x C h.1) h.2
      | _ => simp [mtE] at h
    | _ => simp [mtE] at h
  | .call f es, l, sc, X, E, e', C, h => by
    cases e' with
    | Call fn xs kws p =>
      cases fn with
      | Name y p2 =>
        cases kws with
        | cons _ _ => simp [mtE] at h
        | nil =>
          simp only [mtE, Bool.and_eq_true, decide_eq_true_eq, Bool.not_eq_true'] at h
          obtain ⟨⟨⟨⟨⟨rfl, h1⟩, h2⟩, h3⟩, h4⟩, h5⟩ := h
          rw [C.P] at h2
          cases xs with
          | nil =>
            cases es_nil h5
            exact snd_call0 C.G h2 h3 (C.gl h1)
          | cons x xs => exact snd_call C.G h2 h3 (C.gl h1) (sndEs es l sc X E _ C h5) h4
      | _ => simp [mtE] at h
    | _ => simp [mtE] at h
  | .calv i es, l, sc, X, E, e', C, h => by
    cases e' with
    | Call fn xs kws p =>
      cases fn with
      | Name y p2 =>
        cases kws with
        | cons _ _ => simp [mtE] at h
        | nil =>
          simp only [mtE, Bool.and_eq_true] at h
          obtain ⟨⟨h1, h2⟩, h3⟩ := h
          cases xs with
          | nil =>
            cases es_nil h3
            exact snd_calv0 C.G (C.name h1)
          | cons x xs => exact snd_calv C.G (C.name h1) (sndEs es l sc X E _ C h3) h2
      | _ => simp [mtE] at h
    | _ => simp [mtE] at h
  | .new c es, l, sc, X, E, e', C, h => by
    cases e' with
    | Call fn xs kws p =>
      cases fn with
      | Name y p2 =>
        cases kws with
        | cons _ _ => simp [mtE] at h
        | nil =>
          cases xs with
          | nil => simp [mtE] at h
          | cons x xs =>
            simp only [mtE, Bool.and_eq_true, decide_eq_true_eq] at h
            obtain ⟨⟨⟨⟨rfl, h1⟩, h2⟩, h3⟩, h4⟩ := h
            rw [C.P] at h2
            exact snd_new C.G h2 (fun K hK => C.L.mks c K hK) (C.gl h1) (sndEs es l sc X E _ C h4) h3
      | _ => simp [mtE] at h
    | _ => simp [mtE] at h
  | .bi b es, l, sc, X, E, e', C, h => by
    cases e' with
    | Call fn xs kws p =>
      cases fn with
      | Name y p2 =>
        cases kws with
        | cons _ _ => simp [mtE] at h
        | nil =>
          cases xs with
          | nil => simp [mtE] at h
          | cons x xs =>
            simp only [mtE, Bool.and_eq_true, decide_eq_true_eq] at h
            obtain ⟨⟨⟨⟨rfl, h1⟩, h2⟩, h3⟩, h4⟩ := h
            rcases Bool.or_eq_true_iff.mp h2 with h2 | h2
            · exact snd_bi C.G (C.gl h1) h2 (sndEs es l sc X E _ C h4) h3
            · rw [Bool.and_eq_true] at h2
              have hb := of_decide_eq_true h2.2
              subst hb
              exact snd_repr C.G (C.lam h2.1).2.2 (C.gl h1) (sndEs es l sc X E _ C h4) h3
      | _ => simp [mtE] at h
    | _ => simp [mtE] at h
  | .bik b a d, l, sc, X, E, e', C, h => by
    cases e' with
    | Call fn xs kws p =>
      cases fn with
      | Name y p2 =>
        rcases xs with _ | ⟨x, _ | ⟨x2, r⟩⟩
        · simp [mtE] at h
        · rcases kws with _ | ⟨⟨k, z, kp⟩, _ | ⟨k2, r⟩⟩
          · simp [mtE] at h
          · cases k with
            | none => simp [mtE] at h
            | some k =>
              simp only [mtE, Bool.and_eq_true, decide_eq_true_eq] at h
              obtain ⟨⟨⟨⟨⟨⟨rfl, rfl⟩, h1⟩, rfl⟩, h2⟩, h3⟩, h4⟩ := h
              exact snd_maxk C.G (C.gl h1) (sndE a l sc X E x C h3) (sndE d l sc X E z C h4) h2
          · simp [mtE] at h
        · simp [mtE] at h
      | _ => simp [mtE] at h
    | _ => simp [mtE] at h
  | .isi a cs, l, sc, X, E, e', C, h => by
    cases e' with
    | Call fn xs kws p =>
      cases fn with
      | Name y p2 =>
        cases kws with
        | cons _ _ => rcases xs with _ | ⟨x, _ | ⟨z, _ | ⟨z2, r⟩⟩⟩ <;> simp [mtE] at h
        | nil =>
          rcases xs with _ | ⟨x, _ | ⟨z, _ | ⟨z2, r⟩⟩⟩
          · simp [mtE] at h
          · simp [mtE] at h
          · simp only [mtE, Bool.and_eq_true, decide_eq_true_eq] at h
            obtain ⟨⟨⟨⟨rfl, h1⟩, h2⟩, h3⟩, h4⟩ := h
            have ha := sndE a l sc X E x C h3
            split at h4
            · rw [C.P, ← C.G.hsc] at h4
              exact snd_isi1 C.G (C.gl h1) ha h2 h4
            · split at h4
              · rw [Bool.and_eq_true, C.P, ← C.G.hsc] at h4
                exact snd_isiN C.G (C.gl h1) ha h2 h4.1 h4.2
              · cases h4
          · simp [mtE] at h
      | _ => simp [mtE] at h
    | _ => simp [mtE] at h
  | .att a f, l, sc, X, E, e', C, h => by
    cases e' with
    | Attribute x y p =>
      simp only [mtE, Bool.and_eq_true, decide_eq_true_eq] at h
      obtain ⟨⟨rfl, h1⟩, h2⟩ := h
      rw [C.fN]
      exact snd_att C.G (sndE a l sc X E x C h2) h1
    | _ => simp [mtE] at h
  | .meth a f es, l, sc, X, E, e', C, h => by
    cases e' with
    | Call fn xs kws p =>
      cases fn with
      | Attribute x y ap =>
        cases kws with
        | cons _ _ => simp [mtE] at h
        | nil =>
          simp only [mtE, Bool.and_eq_true] at h
          obtain ⟨⟨⟨⟨⟨⟨h0, h1⟩, h2⟩, h3⟩, h4⟩, h5⟩, h6⟩ := h
          have h0 := of_decide_eq_true h0
          subst h0
          rw [C.fN]
          exact snd_meth C.G (sndE a l sc X E x C h2) h1 (sndEs es l sc X E xs C h4) h3 (fun e => by subst e; exact es_nil h4) h5 h6
      | _ => simp [mtE] at h
    | _ => simp [mtE] at h
  | .lam f b, l, sc, X, E, e', C, h => by
    cases e' with
    | Call fn xs kws p =>
      cases fn with
      | Name y p2 =>
        cases kws with
        | cons _ _ => rcases xs with _ | ⟨x, _ | ⟨z, r⟩⟩ <;> simp [mtE] at h
        | nil =>
          rcases xs with _ | ⟨x, _ | ⟨z, r⟩⟩
          · simp [mtE] at h
          · cases x with
            | Lambda ps body scope lp =>
              simp only [mtE, Bool.and_eq_true, decide_eq_true_eq] at h
              obtain ⟨⟨⟨⟨⟨⟨h0, rfl⟩, h1⟩, h2⟩, h3⟩, h4⟩, h5⟩ := h
              obtain ⟨e1, I, _⟩ := C.lam h0
              subst e1
              split at h2
              · rename_i hs hl
                rw [C.P] at hl
                exact snd_lam C.G I (C.L.lam f hs hl) hl (C.gl h1) h3 (by rw [C.G.hsc]; exact h4) fun X' E' ⟨e1, e2, e3, e4, e5⟩ G' => sndE b false scope X' E' body ⟨G', C.fN, C.P, by unfold LkX; rw [e1, e2, e3, e4, e5]; exact C.L, fun h => by cases h⟩ h5
              · cases h2
            | _ => simp [mtE] at h
          · simp [mtE] at h
      | _ => simp [mtE] at h
    | _ => simp [mtE] at h
theorem sndEs {m : Mt} {Γ : Gm} {n : Nat} {lm : Bool} : ∀ (e : Exs) (l : Bool) (sc : Scope) (X : Cx) (E : XK) (e' : List Expr), Ctx m Γ n sc lm l X E → mtEs m e l sc e' = true → SA Γ E X e e'
  | .nil, l, sc, X, E, e', C, h => by
    cases e' with
    | nil => exact snd_nil
    | cons _ _ => simp [mtEs] at h
  | .cons a r, l, sc, X, E, e', C, h => by
    cases e' with
    | nil => simp [mtEs] at h
    | cons x xs =>
      simp only [mtEs, Bool.and_eq_true] at h
      exact snd_cons (sndE a l sc X E x C h.1.2) (sndEs r l sc X E xs C h.2) h.1.1
  | .star a r, l, sc, X, E, e', C, h => by
    cases e' with
    | nil => simp [mtEs] at h
    | cons x xs =>
      cases x with
      | Starred y p =>
        simp only [mtEs, Bool.and_eq_true] at h
        exact snd_star (sndE a l sc X E y C h.1) (sndEs r l sc X E xs C h.2)
      | _ => simp [mtEs] at h
theorem sndO {m : Mt} {Γ : Gm} {n : Nat} {lm : Bool} : ∀ (e : Ox) (l : Bool) (sc : Scope) (X : Cx) (E : XK) (e' : Option Expr), Ctx m Γ n sc lm l X E → mtO m e l sc e' = true → SO Γ E X e e'
  | .non, l, sc, X, E, e', C, h => by
    cases e' with
    | none => exact snd_onone
    | some _ => simp [mtO] at h
  | .som a, l, sc, X, E, e', C, h => by
    cases e' with
    | none => simp [mtO] at h
    | some x =>
      simp only [mtO] at h
      exact snd_osome (sndE a l sc X E x C h)
theorem sndC {m : Mt} {Γ : Gm} {n : Nat} {lm : Bool} : ∀ (e : Ox) (sc : Scope) (X : Cx) (E : XK) (e' : List Expr), Ctx m Γ n sc lm false X E → mtC m e sc e' = true → PTs X e' (rC X.K Γ E e)
  | .non, sc, X, E, e', C, h => by
    cases e' with
    | nil => exact snd_cnone
    | cons _ _ => simp [mtC] at h
  | .som a, sc, X, E, e', C, h => by
    rcases e' with _ | ⟨x, _ | ⟨y, r⟩⟩
    · simp [mtC] at h
    · simp only [mtC] at h
      exact snd_csome (sndE a false sc X E x C h)
    · simp [mtC] at h
theorem sndL {m : Mt} {Γ : Gm} {n : Nat} {lm : Bool} : ∀ (f : Fl) (l : Bool) (sc : Scope) (X : Cx) (E : XK) (e' : Expr), Ctx m Γ n sc lm l X E → mtL m f l sc e' = true → PE X e' (rL X.K Γ E f)
  | .disp es, l, sc, X, E, e', C, h => by
    cases e' with
    | List xs p =>
      simp only [mtL] at h
      exact snd_disp (sndEs es l sc X E xs C h)
    | _ => simp [mtL] at h
  | .comp elt tg src cond own, l, sc, X, E, e', C, h => by
    cases e' with
    | ListComp elt' gs scope p =>
      rcases gs with _ | ⟨⟨tg', it', ifs, z⟩, _ | ⟨g2, r⟩⟩
      · simp [mtL] at h
      · simp only [mtL, Bool.and_eq_true, decide_eq_true_eq] at h
        obtain ⟨⟨⟨⟨⟨⟨⟨rfl, h1⟩, h2⟩, h3⟩, h4⟩, h5⟩, h6⟩, h7⟩ := h
        refine snd_comp C.G ⟨sndI src l sc X E tg' it' C h2, ⟨_, blkOk_by (by rw [C.G.hN, C.G.hsc]; exact h3), ownP_map m.N own⟩, fun s H Ca cl fp => ?_, fun s H Ca cl fp => ?_, fun s H Ca cl fp => ?_, h1, fun i hi => ?_⟩
        · exact snd_tg (X := X.blk s H scope (compEnvC scope cl Ca X.env) fp) C.G.calm (by show X.N.Nodup; rw [C.G.hN]; exact C.G.nd) (fun i x hx => tg_blk C s H scope Ca cl fp hx) tg tg' h4
        · exact sndC cond (relS scope sc) _ EF ifs (C.blk s H scope Ca cl fp) h5
        · exact (sndE elt false (relS scope sc) _ EF elt' (C.blk s H scope Ca cl fp) h6).pe
        · simpa using List.all_eq_true.mp h7 i hi
      · simp [mtL] at h
    | _ => simp [mtL] at h
  | .ofIt s, l, sc, X, E, e', C, h => by
    cases e' with
    | Call fn xs kws p =>
      cases fn with
      | Name y p2 =>
        cases kws with
        | cons _ _ => rcases xs with _ | ⟨x, _ | ⟨z, r⟩⟩ <;> simp [mtL] at h
        | nil =>
          rcases xs with _ | ⟨x, _ | ⟨z, r⟩⟩
          · simp [mtL] at h
          · cases s with
            | it a =>
              simp only [mtL, mtIt, Bool.and_eq_true, decide_eq_true_eq] at h
              obtain ⟨⟨⟨rfl, h1⟩, h2⟩, h3⟩ := h
              exact snd_ofIt C.G (C.gl h1) (sndE a l sc X E x C h3) h2
            | range es =>
              match es, h with
              | .cons a .nil, h =>
                simp only [mtL, mtIt, Bool.and_eq_true, decide_eq_true_eq] at h
                obtain ⟨⟨⟨rfl, h1⟩, h2⟩, h3⟩ := h
                split at h3
                · rename_i y q x' q2
                  simp only [Bool.and_eq_true, decide_eq_true_eq] at h3
                  obtain ⟨⟨⟨rfl, h4⟩, h5⟩, h6⟩ := h3
                  exact snd_ofRg C.G (C.gl h1) (C.gl h4) (sndE a l sc X E x' C h6) h5
                · cases h3
              | .nil, h => simp [mtL, mtIt] at h
              | .cons a (.cons b r), h => simp [mtL, mtIt] at h
              | .cons a (.star b r), h => simp [mtL, mtIt] at h
              | .star b r, h => simp [mtL, mtIt] at h
            | _ => simp [mtL, mtIt] at h
          · simp [mtL] at h
      | _ => simp [mtL] at h
    | _ => simp [mtL] at h
  | .rep a b, l, sc, X, E, e', C, h => by
    cases e' with
    | BinOp u op y p =>
      cases u with
      | List xs p2 =>
        rcases xs with _ | ⟨x, _ | ⟨z, r⟩⟩
        · simp [mtL] at h
        · simp only [mtL, Bool.and_eq_true, decide_eq_true_eq] at h
          obtain ⟨⟨⟨rfl, h1⟩, h2⟩, h3⟩ := h
          exact snd_rep (sndE a l sc X E x C h2) (sndE b l sc X E y C h3) h1
        · simp [mtL] at h
      | _ => simp [mtL] at h
    | _ => simp [mtL] at h
  | .cat a b, l, sc, X, E, e', C, h => by
    cases e' with
    | BinOp x op y p =>
      simp only [mtL, Bool.and_eq_true, decide_eq_true_eq] at h
      obtain ⟨⟨rfl, h1⟩, h2⟩ := h
      exact snd_cat (sndE a l sc X E x C h1) (sndE b l sc X E y C h2)
    | _ => simp [mtL] at h
theorem sndI {m : Mt} {Γ : Gm} {n : Nat} {lm : Bool} : ∀ (s : Src) (l : Bool) (sc : Scope) (X : Cx) (E : XK) (tg e' : Expr), Ctx m Γ n sc lm l X E → mtI m s l sc tg e' = true → SI Γ E X tg s e'
  | .it a, l, sc, X, E, tg, e', C, h => by
    simp only [mtI] at h
    exact snd_it (sndE a l sc X E e' C h)
  | .range es, l, sc, X, E, tg, e', C, h => by
    cases e' with
    | Call fn xs kws p =>
      cases fn with
      | Name y p2 =>
        cases kws with
        | cons _ _ => simp [mtI] at h
        | nil =>
          simp only [mtI, Bool.and_eq_true, decide_eq_true_eq] at h
          obtain ⟨⟨⟨⟨rfl, h1⟩, h2⟩, hst⟩, h3⟩ := h
          have hS := sndEs es l sc X E xs C h3
          rcases xs with _ | ⟨x, _ | ⟨y, _ | ⟨z, _ | ⟨u, r⟩⟩⟩⟩
          · simp at h2
          · obtain ⟨a1, r1, rfl, s1, _, h3⟩ := es_cons (by simp [noStars] at hst; first | exact hst | exact hst.1) h3
            cases es_nil h3
            exact snd_range1 C.G (C.gl h1) hS s1
          · obtain ⟨a1, r1, rfl, s1, _, h3⟩ := es_cons (by simp [noStars] at hst; first | exact hst | exact hst.1) h3
            obtain ⟨a2, r2, rfl, s2, _, h3⟩ := es_cons (by simp [noStars] at hst; first | exact hst.2 | exact hst.2.1) h3
            cases es_nil h3
            exact snd_range2 C.G (C.gl h1) hS s1 s2
          · obtain ⟨a1, r1, rfl, s1, _, h3⟩ := es_cons (by simp [noStars] at hst; first | exact hst | exact hst.1) h3
            obtain ⟨a2, r2, rfl, s2, _, h3⟩ := es_cons (by simp [noStars] at hst; first | exact hst.2 | exact hst.2.1) h3
            obtain ⟨a3, r3, rfl, s3, _, h3⟩ := es_cons (by simp [noStars] at hst; exact hst.2.2) h3
            cases es_nil h3
            exact snd_range3 C.G (C.gl h1) hS s1 s2 s3
          · simp at h2
      | _ => simp [mtI] at h
    | _ => simp [mtI] at h
  | .enum a, l, sc, X, E, tg, e', C, h => by
    cases tg with
    | Tuple elts kk tp =>
      cases e' with
      | Call fn xs kws p =>
        cases fn with
        | Name y p2 =>
          cases kws with
          | cons _ _ => simp [mtI] at h
          | nil =>
            rcases xs with _ | ⟨x, _ | ⟨z, r⟩⟩
            · simp [mtI] at h
            · simp only [mtI, Bool.and_eq_true, decide_eq_true_eq] at h
              obtain ⟨⟨⟨rfl, h1⟩, h2⟩, h3⟩ := h
              exact snd_enum C.G (C.gl h1) (sndE a l sc X E x C h3) h2
            · simp [mtI] at h
        | _ => simp [mtI] at h
      | _ => simp [mtI] at h
    | _ => simp [mtI] at h
  | .zip a b, l, sc, X, E, tg, e', C, h => by
    cases tg with
    | Tuple elts kk tp =>
      cases e' with
      | Call fn xs kws p =>
        cases fn with
        | Name y p2 =>
          cases kws with
          | cons _ _ => simp [mtI] at h
          | nil =>
            rcases xs with _ | ⟨x, _ | ⟨z, _ | ⟨u, r⟩⟩⟩
            · simp [mtI] at h
            · simp [mtI] at h
            · simp only [mtI, Bool.and_eq_true, decide_eq_true_eq] at h
              obtain ⟨⟨⟨⟨⟨rfl, h1⟩, h2⟩, h3⟩, h4⟩, h5⟩ := h
              exact snd_zip C.G (C.gl h1) (sndE a l sc X E x C h4) (sndE b l sc X E z C h5) h2 h3
            · simp [mtI] at h
        | _ => simp [mtI] at h
      | _ => simp [mtI] at h
    | _ => simp [mtI] at h
end
end Ice
end

section
set_option Elab.async false
set_option linter.all false
set_option maxRecDepth 100000
set_option maxHeartbeats 4000000
namespace Ice
open PySem PySem.Spec PyProof.Rows PySem.W L2

/-! ### a, b = x, y -/
def isStar : Expr → Bool := fun | .Starred .. => true | _ => false
def blkK (sc : Scope) : ScopeKind := if sc.kind.isAnnotationScope then .function else sc.kind
def nmF (sc : Scope) (line : Nat) : Expr → Option Str
  | .Name id pos => if (sc.names.lookup id == some .local && pos.line == line) = true then some id else none
  | _ => none
def swV (sc : Scope) (ts vs : List Expr) : Option (Option (List Str)) :=
  if (!(ts.length == 2 || ts.length == 3) || vs.length != ts.length || blkK sc != .function) = true then some none else
  if (vs.any isStar) = true then some none else
  if ((ts.filterMap (nmF sc ((ts.head?.map (·.pos.line)).getD 0))).length != ts.length || (ts.filterMap (nmF sc ((ts.head?.map (·.pos.line)).getD 0))).eraseDups.length != (ts.filterMap (nmF sc ((ts.head?.map (·.pos.line)).getD 0))).length) = true then some none else
  if vs.all (foldedForSure 8) = true then some none else
  if vs.all (constantsAlone 8) = true then none else some (some (ts.filterMap (nmF sc ((ts.head?.map (·.pos.line)).getD 0))))
theorem sw_eq {ts vs : List Expr} {k k2 : Nat} {p p2 : Pos} {env : PySem.Env} {r : Option (List Str)} (h : swV env.scope ts vs = some r) : swappedStores [.Tuple ts k p] (.Tuple vs k2 p2) env = pure r := by
  unfold swappedStores
  dsimp only
  change (if (!(ts.length == 2 || ts.length == 3) || vs.length != ts.length || blkK env.scope != .function) = true then pure none else
    if (vs.any isStar) = true then pure none else
    if ((ts.filterMap (nmF env.scope ((ts.head?.map (·.pos.line)).getD 0))).length != ts.length || (ts.filterMap (nmF env.scope ((ts.head?.map (·.pos.line)).getD 0))).eraseDups.length != (ts.filterMap (nmF env.scope ((ts.head?.map (·.pos.line)).getD 0))).length) = true then pure none else
    if vs.all (foldedForSure 8) = true then pure none else
    if vs.all (constantsAlone 8) = true then (do
      unsupported "assign.tuple-of-constant-expressions:order-of-the-stores"
      pure (some (ts.filterMap (nmF env.scope ((ts.head?.map (·.pos.line)).getD 0))))) else pure (some (ts.filterMap (nmF env.scope ((ts.head?.map (·.pos.line)).getD 0)))) : Sem (Option (List Str))) = pure r
  unfold swV at h
  split at h
  · rename_i c1
    cases h
    rw [if_pos c1]
  rename_i c1
  rw [if_neg c1]
  split at h
  · rename_i c2
    cases h
    rw [if_pos c2]
  rename_i c2
  rw [if_neg c2]
  split at h
  · rename_i c3
    cases h
    rw [if_pos c3]
  rename_i c3
  rw [if_neg c3]
  split at h
  · rename_i c4
    cases h
    rw [if_pos c4]
  rename_i c4
  rw [if_neg c4]
  split at h
  · cases h
  rename_i c5
  rw [if_neg c5]
  cases h
  rfl
def setS : List Nat → List V → L2.St → L2.St
  | i :: is, v :: vs, σ => setS is vs (σ.set i (some v))
  | _, _, σ => σ
section
variable {Γ : Gm} {E : XK} {X : Cx} {n : Nat} {N : List Str} {sc : Scope} {lm : Bool} {pos : Pos} {c c1 : Cfg} {H H1 : Hp} {σ : L2.St} {K : PySem.W.Frag}
theorem setMany_env {Λ : Lay} : ∀ {is : List Nat} {ds : List Ice.D} {ρ ρ' : Env} {vs : List V} {σ : L2.St}, setMany is ds ρ = some ρ' → DensD K Λ c ds vs → EnvR K Λ c ρ σ → EnvR K Λ c ρ' (setS is vs σ) ∧ ds.length = is.length
  | [], [], ρ, ρ', vs, σ, h, hd, en => by
    cases h
    cases (show vs = [] from hd)
    exact ⟨en, rfl⟩
  | i :: is, d :: ds, ρ, ρ', vs, σ, h, hd, en => by
    simp only [setMany] at h
    split at h
    · obtain ⟨v, r, rfl, h1, h2⟩ := hd
      obtain ⟨a1, a2⟩ := setMany_env h h2 (EnvR.set en h1)
      exact ⟨a1, by simp [a2]⟩
    · cases h
  | [], _ :: _, _, _, _, _, h, _, _ => by cases h
  | _ :: _, [], _, _, _, _, h, _, _ => by cases h
theorem par_read {is : List Nat} {es : Exs} {D : Ends} (h : rS K Γ E (.par is es) D σ H) : rA K Γ E es σ H fun vs H1 => vs.length = is.length ∧ D.nx (setS is vs σ) H1 ∧ ∀ p o, H1 p = none → D.nx (setS is vs σ) (upd H1 p o) := by
  obtain ⟨c, ρ, a, w⟩ := h
  unfold execS at w
  obtain ⟨c0, ρ0, a0, w0⟩ := WpF.stepA a w
  refine ⟨c0, ρ0, a0, w0.imp fun vs H1 h9 => ?_⟩
  obtain ⟨c1, ds, b1, a1, hds, -, w1⟩ := h9
  cases q : setMany is ds ρ with
  | none => rw [q] at w1; exact w1.elim
  | some ρ' =>
    rw [q] at w1
    obtain ⟨en, hl⟩ := setMany_env q hds a1.env
    exact ⟨by rw [← hds.length]; exact hl, w1.here a1.rel en, fun p o hp => w1 c1 _ _ ((After.refl a1.rel).noise (Free.of hp) (loose_new a1.rel hp)) rfl en⟩
theorem snd_par2 {i j : Nat} {x y : Str} {es : Exs} {a b : Expr} {px py pt pt2 : Pos} {kt k2 : Nat} (G : Good Γ n N sc lm X E) (hi : X.N[i]? = some x) (hj : X.N[j]? = some y) (hij : decide (i ≠ j) = true) (hx : X.env.scope.names.lookup x = some .local) (hy : X.env.scope.names.lookup y = some .local)
    (hw : swV X.env.scope [.Name x px, .Name y py] [a, b] = some (some [x, y])) (he : SA Γ E X es [a, b]) : S1 Γ E X (.par [i, j] es) (.Assign [.Tuple [.Name x px, .Name y py] kt pt] (.Tuple [a, b] k2 pt2) pos) :=
  (ps_par G.calm (by rw [G.hN]; exact G.nd) hi hj (of_decide_eq_true hij) hx hy he (sw_eq hw)).imp fun D σ H h => by
    obtain ⟨c0, ρ0, a0, w0⟩ := par_read h
    refine ⟨c0, ρ0, a0, w0.imp fun vs H1 ⟨hl, h1, _⟩ => ?_⟩
    rcases vs with _ | ⟨v, _ | ⟨u, _ | ⟨z, r⟩⟩⟩ <;> simp at hl
    exact ⟨v, u, rfl, h1⟩
theorem snd_par3 {i j l : Nat} {x y z : Str} {es : Exs} {a b e : Expr} {px py pz pt pt2 : Pos} {kt k2 : Nat} (G : Good Γ n N sc lm X E) (hi : X.N[i]? = some x) (hj : X.N[j]? = some y) (hl : X.N[l]? = some z) (hij : decide (i ≠ j ∧ i ≠ l ∧ j ≠ l) = true) (hx : X.env.scope.names.lookup x = some .local) (hy : X.env.scope.names.lookup y = some .local) (hz : X.env.scope.names.lookup z = some .local)
    (hw : swV X.env.scope [.Name x px, .Name y py, .Name z pz] [a, b, e] = some (some [x, y, z])) (he : SA Γ E X es [a, b, e]) : S1 Γ E X (.par [i, j, l] es) (.Assign [.Tuple [.Name x px, .Name y py, .Name z pz] kt pt] (.Tuple [a, b, e] k2 pt2) pos) :=
  (ps_par3 G.calm (by rw [G.hN]; exact G.nd) hi hj hl (of_decide_eq_true hij).1 (of_decide_eq_true hij).2.1 (of_decide_eq_true hij).2.2 hx hy hz he (sw_eq hw)).imp fun D σ H h => by
    obtain ⟨c0, ρ0, a0, w0⟩ := par_read h
    refine ⟨c0, ρ0, a0, w0.imp fun vs H1 ⟨hl, h1, _⟩ => ?_⟩
    rcases vs with _ | ⟨v, _ | ⟨u, _ | ⟨z, _ | ⟨z2, r⟩⟩⟩⟩ <;> simp at hl
    exact ⟨v, u, z, rfl, h1⟩
def nsB (chk : Nat → Str → Bool) : List Nat → List Expr → Bool
  | [], [] => true
  | i :: is, e :: es => (match e with
    | .Name x _ => chk i x
    | _ => false) && nsB chk is es
  | _, _ => false
def rNs (is : List Nat) : TGs := fun vs σ H Q => vs.length = is.length ∧ Q (setS is vs σ) H
theorem ns_ok (hN : X.N.Nodup) {chk : Nat → Str → Bool} (ck : ∀ i x, chk i x = true → TgOk X i x) : ∀ {is : List Nat} {ts : List Expr}, nsB chk is ts = true → PGs X ts (rNs is) ∧ (assignEach ts X.env).length = is.length ∧ (assignEach ts X.env).findIdx? (·.1) = none
  | [], [], _ => by
    refine ⟨pgs_nil.imp fun vs σ H Q ⟨h, q⟩ => ?_, rfl, rfl⟩
    cases vs with
    | nil => exact ⟨rfl, q⟩
    | cons _ _ => cases h
  | i :: is, e :: es, h => by
    simp only [nsB, Bool.and_eq_true] at h
    cases e with
    | Name x p =>
      obtain ⟨i1, i2, i3⟩ := ns_ok hN ck h.2
      have t := ck i x h.1
      refine ⟨(pgs_cons (pg_name (pos := p) hN t.at_ t.loc t.hf) i1 rfl).imp fun vs σ H Q ⟨hl, q⟩ => ?_, ?_, ?_⟩
      · cases vs with
        | nil => cases hl
        | cons v vs => exact ⟨v, vs, rfl, by simpa using hl, q⟩
      · show (_ :: assignEach es X.env).length = _
        simp [i2]
      · show (_ :: assignEach es X.env).findIdx? _ = none
        rw [List.findIdx?_cons, i3]
        rfl
    | _ => simp at h
  | [], _ :: _, h => by cases h
  | _ :: _, [], h => by cases h
theorem snd_parN {is : List Nat} {es : Exs} {ts vs : List Expr} {pt pt2 : Pos} {kt k2 : Nat} (G : Good Γ n N sc lm X E) {chk : Nat → Str → Bool} (ck : ∀ i x, chk i x = true → TgOk X i x) (hn : nsB chk is ts = true) (hl : decide (is.length ≤ 1000) = true) (hw : swV X.env.scope ts vs = some none) (he : SA Γ E X es vs) :
    S1 Γ E X (.par is es) (.Assign [.Tuple ts kt pt] (.Tuple vs k2 pt2) pos) := by
  obtain ⟨i1, i2, i3⟩ := ns_ok (by rw [G.hN]; exact G.nd) ck hn
  refine (ps_asg (pe_tup he) (pg_tup G.calm i1 i2 i3) (sole_ok rfl _ _) (sw_eq hw) (each_one rfl _)).imp fun D σ H h => ?_
  obtain ⟨c0, ρ0, a0, w0⟩ := par_read h
  refine ⟨c0, ρ0, a0, w0.imp fun vs H1 ⟨hl2, _, h2⟩ => ?_⟩
  have hl' := of_decide_eq_true hl
  exact ⟨by rw [sizeLine_eq]; omega, fun p hp => ⟨p, vs, rfl, .inl (.inl upd_same), hl2, hl2, h2 p _ hp⟩⟩
/-! ### the matcher of statements -/
theorem swapped_sub {o i e : Expr} {p : Pos} {env : PySem.Env} : swappedStores [.Subscript o i p] e env = pure none := by cases e <;> rfl
theorem sole_sub {o i e : Expr} {p : Pos} {l : Nat} {env : PySem.Env} : swapsWithSole [.Subscript o i p] e l env = pure false := by cases e <;> rfl
end
/-- a comprehension that is stored at once -/
def swcB (sc : Scope) (y : Str) (py pe : Pos) (scope : Scope) : Bool := (match sc.kind with
  | .function => true
  | _ => false) && decide (sc.names.lookup y = some .local) && (py.line == pe.line) && !(scope.names.any fun (n, k) => n == y && (k == .local || k == .cell))
def compNmB (sc : Scope) : Expr → Bool
  | .Name y _ => !decide (sc.names.lookup y = some .local)
  | _ => false
def isRetN : Ex → Bool
  | .lit .non => true
  | _ => false
mutual
def mtS (m : Mt) (l : Bool) (sc : Scope) : Sm → Stmt → Bool
  | .asg g e, s => match s with
    | .Assign [t] e' pos => mtE m e l sc e' && notStar t && (match g, e, t, e' with
      | .nm i, .fr (.comp _ _ _ _ _), .Name y py, .ListComp _ [_] scope pe => tgB m.N sc i y && (swcB sc y py pe scope || !decide (sc.names.lookup y = some .local))
      | .nm i, .mu (.comp _ _ _ _ _), .Name y py, .ListComp _ [_] scope pe => tgB m.N sc i y && (swcB sc y py pe scope || !decide (sc.names.lookup y = some .local))
      | g, _, t, e' => mtTg (tgB m.N sc) g t && (notTuple e' || isName t) && notComp e')
    | _ => false
  | .par is es, s => match s with
    | .Assign [.Tuple ts _ _] (.Tuple vs _ _) _ => mtEs m es l sc vs && (match swV sc ts vs with
      | some none => nsB (tgB m.N sc) is ts && decide (is.length ≤ 1000)
      | some (some ns) => (match is, ts, vs with
        | [i, j], [.Name x _, .Name y _], [_, _] => tgB m.N sc i x && tgB m.N sc j y && decide (i ≠ j) && decide (sc.names.lookup x = some .local) && decide (sc.names.lookup y = some .local) && decide (ns = [x, y])
        | [i, j, k], [.Name x _, .Name y _, .Name z _], [_, _, _] => tgB m.N sc i x && tgB m.N sc j y && tgB m.N sc k z && decide (i ≠ j ∧ i ≠ k ∧ j ≠ k) && decide (sc.names.lookup x = some .local) && decide (sc.names.lookup y = some .local) && decide (sc.names.lookup z = some .local) && decide (ns = [x, y, z])
        | _, _, _ => false)
      | none => false)
    | _ => false
  | .aug i o e, s => match s with
    | .AugAssign (.Name y _) op e' _ => decide (op = opB o) && tgB m.N sc i y && mtE m e l sc e'
    | _ => false
  | .setI o i e, s => match s with
    | .Assign [.Subscript o' i' _] e' _ => notSlice i' && mtE m o l sc o' && mtE m i l sc i' && mtE m e l sc e'
    | _ => false
  | .augI o i op e, s => match s with
    | .AugAssign (.Subscript o' i' _) op' e' _ => decide (op' = opB op) && notSlice i' && mtE m o l sc o' && mtE m i l sc i' && mtE m e l sc e'
    | _ => false
  | .setA o f e, s => match s with
    | .Assign [.Attribute o' a _] e' _ => decide (a = m.fN f) && notComp e' && mtE m o l sc o' && mtE m e l sc e'
    | _ => false
  | .augA o f op e, s => match s with
    | .AugAssign (.Attribute o' a _) op' e' _ => decide (a = m.fN f) && decide (op' = opB op) && mtE m o l sc o' && mtE m e l sc e'
    | _ => false
  | .ex e, s => match s with
    | .Expr e' _ => notComp e' && mtE m e l sc e'
    | _ => false
  | .app o e, s => match s with
    | .Expr (.Call (.Attribute o' a ap) [e'] [] p2) _ => decide (a = "append") && notCall o' && notStar e' && (ap.endLine == p2.line) && mtE m o l sc o' && mtE m e l sc e'
    | _ => false
  | .inst o i e, s => match s with
    | .Expr (.Call (.Attribute o' a ap) [i', e'] [] p2) _ => decide (a = "insert") && notCall o' && notStar i' && notStar e' && (ap.endLine == p2.line) && mtE m o l sc o' && mtE m i l sc i' && mtE m e l sc e'
    | _ => false
  | .ext o e, s => match s with
    | .Expr (.Call (.Attribute o' a ap) [e'] [] p2) _ => decide (a = "extend") && notCall o' && notStar e' && (ap.endLine == p2.line) && mtE m o l sc o' && mtE m e l sc e'
    | _ => false
  | .ret e, s => match s with
    | .Return (some e') _ => mtE m e l sc e'
    | .Return none _ => isRetN e
    | _ => false
  | .if_ c a b, s => match s with
    | .If c' a' b' _ => mtE m c l sc c' && mtSs m l sc a a' && mtSs m l sc b b'
    | _ => false
  | .whl c b, s => match s with
    | .While c' b' [] _ => mtE m c l sc c' && mtSs m l sc b b'
    | _ => false
  | .for_ g src b, s => match s with
    | .For tg' it' b' [] _ => notSet it' && mtI m src l sc tg' it' && mtTg (tgB m.N sc) g tg' && mtSs m l sc b b'
    | _ => false
  | .brk, s => match s with
    | .Break _ => true
    | _ => false
  | .pass_, s => match s with
    | .Pass _ => true
    | _ => false
  | .raise c es, s => match s with
    | .Raise (some (.Call (.Name y _) (x :: xs) [] _)) none _ => decide (y = nm c) && glB sc y && (m.P.exc c).isSome && noStars (x :: xs) && mtEs m es l sc (x :: xs)
    | _ => false
  | .frz _, _ => false
def mtSs (m : Mt) (l : Bool) (sc : Scope) : Sms → List Stmt → Bool
  | .nil, b => match b with
    | [] => true
    | _ => false
  | .cons s r, b => match s with
    | .frz _ => mtSs m l sc r b
    | s => match b with
      | s' :: r' => mtS m l sc s s' && mtSs m l sc r r'
      | _ => false
end
end Ice
end

section
set_option Elab.async false
set_option linter.all false
set_option maxRecDepth 100000
set_option maxHeartbeats 4000000
namespace Ice
open PySem PySem.Spec PyProof.Rows PySem.W L2
section
variable {m : Mt} {Γ : Gm} {n : Nat} {sc : Scope} {lm l : Bool} {X : Cx} {E : XK}
theorem Ctx.tg (C : Ctx m Γ n sc lm l X E) (hfn : ∀ x, X.fn x = true) {i : Nat} {x : Str} (h : tgB m.N sc i x = true) : TgOk X i x := by
  unfold tgB at h
  simp only [Bool.and_eq_true, Bool.or_eq_true, decide_eq_true_eq] at h
  exact ⟨by rw [C.G.hN]; exact h.1, by rw [C.G.hsc]; exact h.2, .inl (hfn x)⟩
theorem tgB_at {N : List Str} {i : Nat} {x : Str} (h : tgB N sc i x = true) : N[i]? = some x := by
  unfold tgB at h
  simp only [Bool.and_eq_true, decide_eq_true_eq] at h
  exact h.1
/-- a comprehension's parts -/
theorem compB_of {elt : Ex} {tg : Tg} {src : Src} {cond : Ox} {own : List Nat} {elt' tg' it' : Expr} {ifs : List Expr} {z : Int} {scope : Scope} {p : Pos} (C : Ctx m Γ n sc lm l X E) (h : mtL m (.comp elt tg src cond own) l sc (.ListComp elt' [⟨tg', it', ifs, z⟩] scope p) = true) :
    z = 0 ∧ CompB Γ E X elt tg src cond own elt' tg' it' ifs scope := by
  simp only [mtL, Bool.and_eq_true, decide_eq_true_eq] at h
  obtain ⟨⟨⟨⟨⟨⟨⟨rfl, h1⟩, h2⟩, h3⟩, h4⟩, h5⟩, h6⟩, h7⟩ := h
  refine ⟨rfl, sndI src l sc X E tg' it' C h2, ⟨_, blkOk_by (by rw [C.G.hN, C.G.hsc]; exact h3), ownP_map m.N own⟩, fun s H Ca cl fp => ?_, fun s H Ca cl fp => ?_, fun s H Ca cl fp => ?_, h1, fun i hi => ?_⟩
  · exact snd_tg (X := X.blk s H scope (compEnvC scope cl Ca X.env) fp) C.G.calm (by show X.N.Nodup; rw [C.G.hN]; exact C.G.nd) (fun i x hx => tg_blk C s H scope Ca cl fp hx) tg tg' h4
  · exact sndC cond (relS scope sc) _ EF ifs (C.blk s H scope Ca cl fp) h5
  · exact (sndE elt false (relS scope sc) _ EF elt' (C.blk s H scope Ca cl fp) h6).pe
  · simpa using List.all_eq_true.mp h7 i hi
theorem swc_ok {sc : Scope} {y : Str} {py pe : Pos} {scope : Scope} {elt : Expr} {gs : List Comprehension} {ln : Nat} {env : PySem.Env} (he : env.scope = sc) (h : swcB sc y py pe scope = true) : sc.names.lookup y = some .local ∧ swapsWith (.ListComp elt gs scope pe) (some (.Name y py)) ln env = pure true := by
  unfold swcB at h
  simp only [Bool.and_eq_true, decide_eq_true_eq, Bool.not_eq_true'] at h
  obtain ⟨⟨⟨h1, h2⟩, h3⟩, h4⟩ := h
  refine ⟨h2, sw_true ?_ (by rw [he]; exact h2) h3 h4⟩
  rw [he]
  cases hk : sc.kind <;> rw [hk] at h1 <;> first | rfl | cases h1
/-- a store of a comprehension -/
theorem snd_asgC {elt : Ex} {tg : Tg} {src : Src} {cond : Ox} {own : List Nat} {i : Nat} {y : Str} {py pe pos : Pos} {elt' : Expr} {g0 : Comprehension} {scope : Scope} {mu : Bool} (C : Ctx m Γ n sc lm l X E) (hfn : ∀ x, X.fn x = true)
    (h : mtL m (.comp elt tg src cond own) l sc (.ListComp elt' [g0] scope pe) = true) (ht : tgB m.N sc i y = true) (hs : (swcB sc y py pe scope || !decide (sc.names.lookup y = some .local)) = true) :
    S1 Γ E X (.asg (.nm i) (if mu = true then .mu (.comp elt tg src cond own) else .fr (.comp elt tg src cond own))) (.Assign [.Name y py] (.ListComp elt' [g0] scope pe) pos) := by
  have t := C.tg hfn ht
  obtain ⟨tg', it', ifs, z⟩ := g0
  have hN : X.N.Nodup := by rw [C.G.hN]; exact C.G.nd
  rcases Bool.or_eq_true_iff.mp hs with hs | hs
  · obtain ⟨rfl, B⟩ := compB_of C h
    obtain ⟨q1, q2⟩ := swc_ok (elt := elt') (gs := [⟨tg', it', ifs, 0⟩]) (ln := pos.line) C.G.hsc hs
    cases mu with
    | true => exact snd_asgMu C.G B t.at_ (by rw [C.G.hsc]; exact q1) q2
    | false => exact snd_asgFr C.G B t.at_ (by rw [C.G.hsc]; exact q1) q2
  · have hk : X.env.scope.names.lookup y ≠ some .local := by
      rw [C.G.hsc]
      simpa using hs
    have hl := sndL _ l sc X E _ C h
    have hg : PG X (.Name y py) (rG X.K Γ (.nm i)) := snd_tg C.G.calm hN (fun j x hx => C.tg hfn hx) (.nm i) (.Name y py) ht
    cases mu with
    | true => exact snd_asg hg (snd_mu rfl hl) (sole_comp hk) rfl rfl
    | false => exact snd_asg hg (snd_fr rfl hl) (sole_comp hk) rfl rfl
theorem mt_fr {f : Fl} {e' : Expr} (h : mtE m (.fr f) l sc e' = true) : mtL m f l sc e' = true := by
  simp only [mtE, Bool.and_eq_true] at h
  exact h.2
theorem mt_mu {f : Fl} {e' : Expr} (h : mtE m (.mu f) l sc e' = true) : mtL m f l sc e' = true := by
  simp only [mtE, Bool.and_eq_true] at h
  exact h.2
theorem snd_asgS {g : Tg} {e : Ex} {t e' : Expr} {pos : Pos} (C : Ctx m Γ n sc lm l X E) (hfn : ∀ x, X.fn x = true) (h : mtS m l sc (.asg g e) (.Assign [t] e' pos) = true) : S1 Γ E X (.asg g e) (.Assign [t] e' pos) := by
  simp only [mtS, Bool.and_eq_true] at h
  obtain ⟨⟨h1, h2⟩, h3⟩ := h
  split at h3
  · rw [Bool.and_eq_true] at h3
    exact snd_asgC (mu := false) C hfn (mt_fr h1) h3.1 h3.2
  · rw [Bool.and_eq_true] at h3
    exact snd_asgC (mu := true) C hfn (mt_mu h1) h3.1 h3.2
  · simp only [Bool.and_eq_true] at h3
    exact snd_asg (snd_tg C.G.calm (by rw [C.G.hN]; exact C.G.nd) (fun j x hx => C.tg hfn hx) g t h3.1.1) (sndE e l sc X E e' C h1) (sole_ok h3.2 _ _) h3.1.2 h2
theorem snd_parS {is : List Nat} {es : Exs} {ts vs : List Expr} {k k2 : Nat} {p p2 pos : Pos} (C : Ctx m Γ n sc lm l X E) (hfn : ∀ x, X.fn x = true) (h : mtS m l sc (.par is es) (.Assign [.Tuple ts k p] (.Tuple vs k2 p2) pos) = true) : S1 Γ E X (.par is es) (.Assign [.Tuple ts k p] (.Tuple vs k2 p2) pos) := by
  simp only [mtS, Bool.and_eq_true] at h
  obtain ⟨h1, h2⟩ := h
  have hs := sndEs es l sc X E vs C h1
  have e := C.G.hsc
  split at h2
  · rename_i hw
    rw [Bool.and_eq_true] at h2
    rw [← e] at hw
    exact snd_parN C.G (fun j x hx => C.tg hfn hx) h2.1 h2.2 hw hs
  · rename_i ns hw
    rw [← e] at hw
    split at h2
    · simp only [Bool.and_eq_true] at h2
      obtain ⟨⟨⟨⟨⟨a1, a2⟩, a3⟩, a4⟩, a5⟩, a6⟩ := h2
      have a6 := of_decide_eq_true a6
      rw [a6] at hw
      exact snd_par2 C.G (C.tg hfn a1).at_ (C.tg hfn a2).at_ a3 (by rw [e]; exact of_decide_eq_true a4) (by rw [e]; exact of_decide_eq_true a5) hw hs
    · simp only [Bool.and_eq_true] at h2
      obtain ⟨⟨⟨⟨⟨⟨⟨a1, a2⟩, a3⟩, a4⟩, a5⟩, a6⟩, a7⟩, a8⟩ := h2
      have a8 := of_decide_eq_true a8
      rw [a8] at hw
      exact snd_par3 C.G (C.tg hfn a1).at_ (C.tg hfn a2).at_ (C.tg hfn a3).at_ a4 (by rw [e]; exact of_decide_eq_true a5) (by rw [e]; exact of_decide_eq_true a6) (by rw [e]; exact of_decide_eq_true a7) hw hs
    · cases h2
  · cases h2
end
mutual
theorem sndS {m : Mt} {Γ : Gm} {n : Nat} {lm l : Bool} {sc : Scope} {X : Cx} {E : XK} (C : Ctx m Γ n sc lm l X E) (hfn : ∀ x, X.fn x = true) : ∀ (s : Sm) (b : Stmt), mtS m l sc s b = true → S1 Γ E X s b
  | .asg g e, b, h => by
    cases b with
    | Assign ts e' p =>
      rcases ts with _ | ⟨t, _ | ⟨t2, r⟩⟩
      · simp [mtS] at h
      · exact snd_asgS C hfn h
      · simp [mtS] at h
    | _ => simp [mtS] at h
  | .par is es, b, h => by
    cases b with
    | Assign ts e' p =>
      rcases ts with _ | ⟨t, _ | ⟨t2, r⟩⟩
      · simp [mtS] at h
      · cases t with
        | Tuple xs k p1 =>
          cases e' with
          | Tuple ys k2 p2 => exact snd_parS C hfn h
          | _ => simp [mtS] at h
        | _ => simp [mtS] at h
      · simp [mtS] at h
    | _ => simp [mtS] at h
  | .aug i o e, b, h => by
    cases b with
    | AugAssign t op e' p =>
      cases t with
      | Name y py =>
        simp only [mtS, Bool.and_eq_true] at h
        obtain ⟨⟨h0, h1⟩, h2⟩ := h
        have h0 := of_decide_eq_true h0
        subst h0
        exact snd_aug C.G (C.tg hfn h1) (sndE e l sc X E e' C h2)
      | _ => simp [mtS] at h
    | _ => simp [mtS] at h
  | .setI o i e, b, h => by
    cases b with
    | Assign ts e' p =>
      rcases ts with _ | ⟨t, _ | ⟨t2, r⟩⟩
      · simp [mtS] at h
      · cases t with
        | Subscript x y p2 =>
          simp only [mtS, Bool.and_eq_true] at h
          exact snd_setI C.G (sndE o l sc X E x C h.1.1.2) (sndE i l sc X E y C h.1.2) (sndE e l sc X E e' C h.2) h.1.1.1
        | _ => simp [mtS] at h
      · simp [mtS] at h
    | _ => simp [mtS] at h
  | .augI o i op e, b, h => by
    cases b with
    | AugAssign t op' e' p =>
      cases t with
      | Subscript x y p2 =>
        simp only [mtS, Bool.and_eq_true] at h
        obtain ⟨⟨⟨⟨h0, h1⟩, h2⟩, h3⟩, h4⟩ := h
        have h0 := of_decide_eq_true h0
        subst h0
        exact snd_augI C.G (sndE o l sc X E x C h2) (sndE i l sc X E y C h3) (sndE e l sc X E e' C h4) h1
      | _ => simp [mtS] at h
    | _ => simp [mtS] at h
  | .setA o f e, b, h => by
    cases b with
    | Assign ts e' p =>
      rcases ts with _ | ⟨t, _ | ⟨t2, r⟩⟩
      · simp [mtS] at h
      · cases t with
        | Attribute x a p2 =>
          simp only [mtS, Bool.and_eq_true] at h
          obtain ⟨⟨⟨h0, h1⟩, h2⟩, h3⟩ := h
          have h0 := of_decide_eq_true h0
          subst h0
          rw [C.fN]
          exact snd_setA C.G (sndE o l sc X E x C h2) (sndE e l sc X E e' C h3) h1
        | _ => simp [mtS] at h
      · simp [mtS] at h
    | _ => simp [mtS] at h
  | .augA o f op e, b, h => by
    cases b with
    | AugAssign t op' e' p =>
      cases t with
      | Attribute x a p2 =>
        simp only [mtS, Bool.and_eq_true] at h
        obtain ⟨⟨⟨h0, h1⟩, h2⟩, h3⟩ := h
        have h0 := of_decide_eq_true h0
        have h1 := of_decide_eq_true h1
        subst h0 h1
        rw [C.fN]
        exact snd_augA C.G (sndE o l sc X E x C h2) (sndE e l sc X E e' C h3)
      | _ => simp [mtS] at h
    | _ => simp [mtS] at h
  | .ex e, b, h => by
    cases b with
    | Expr e' p =>
      simp only [mtS, Bool.and_eq_true] at h
      exact snd_expr (sndE e l sc X E e' C h.2) h.1
    | _ => simp [mtS] at h
  | .app o e, b, h => by
    cases b with
    | Expr x p =>
      cases x with
      | Call fn xs kws p2 =>
        cases fn with
        | Attribute o' a ap =>
          cases kws with
          | cons _ _ => rcases xs with _ | ⟨x, _ | ⟨z, r⟩⟩ <;> simp [mtS] at h
          | nil =>
            rcases xs with _ | ⟨x, _ | ⟨z, r⟩⟩
            · simp [mtS] at h
            · simp only [mtS, Bool.and_eq_true] at h
              obtain ⟨⟨⟨⟨⟨h0, h1⟩, h2⟩, h3⟩, h4⟩, h5⟩ := h
              have h0 := of_decide_eq_true h0
              subst h0
              exact snd_app C.G (sndE o l sc X E o' C h4) (sndE e l sc X E x C h5) h1 h2 h3
            · simp [mtS] at h
        | _ => simp [mtS] at h
      | _ => simp [mtS] at h
    | _ => simp [mtS] at h
  | .inst o i e, b, h => by
    cases b with
    | Expr x p =>
      cases x with
      | Call fn xs kws p2 =>
        cases fn with
        | Attribute o' a ap =>
          cases kws with
          | cons _ _ => rcases xs with _ | ⟨x, _ | ⟨y, _ | ⟨z, r⟩⟩⟩ <;> simp [mtS] at h
          | nil =>
            rcases xs with _ | ⟨x, _ | ⟨y, _ | ⟨z, r⟩⟩⟩
            · simp [mtS] at h
            · simp [mtS] at h
            · simp only [mtS, Bool.and_eq_true] at h
              obtain ⟨⟨⟨⟨⟨⟨⟨h0, h1⟩, h2⟩, h2'⟩, h3⟩, h4⟩, h5⟩, h6⟩ := h
              have h0 := of_decide_eq_true h0
              subst h0
              exact snd_inst C.G (sndE o l sc X E o' C h4) (sndE i l sc X E x C h5) (sndE e l sc X E y C h6) h1 h2 h2' h3
            · simp [mtS] at h
        | _ => simp [mtS] at h
      | _ => simp [mtS] at h
    | _ => simp [mtS] at h
  | .ext o e, b, h => by
    cases b with
    | Expr x p =>
      cases x with
      | Call fn xs kws p2 =>
        cases fn with
        | Attribute o' a ap =>
          cases kws with
          | cons _ _ => rcases xs with _ | ⟨x, _ | ⟨z, r⟩⟩ <;> simp [mtS] at h
          | nil =>
            rcases xs with _ | ⟨x, _ | ⟨z, r⟩⟩
            · simp [mtS] at h
            · simp only [mtS, Bool.and_eq_true] at h
              obtain ⟨⟨⟨⟨⟨h0, h1⟩, h2⟩, h3⟩, h4⟩, h5⟩ := h
              have h0 := of_decide_eq_true h0
              subst h0
              exact snd_ext C.G (sndE o l sc X E o' C h4) (sndE e l sc X E x C h5) h1 h2 h3
            · simp [mtS] at h
        | _ => simp [mtS] at h
      | _ => simp [mtS] at h
    | _ => simp [mtS] at h
  | .ret e, b, h => by
    cases b with
    | Return v p =>
      cases v with
      | some e' =>
        simp only [mtS] at h
        exact snd_ret (sndE e l sc X E e' C h)
      | none =>
        simp only [mtS] at h
        unfold isRetN at h
        split at h
        · exact snd_retN
        · cases h
    | _ => simp [mtS] at h
  | .if_ c a b, s, h => by
    cases s with
    | If c' a' b' p =>
      simp only [mtS, Bool.and_eq_true] at h
      exact snd_if (sndE c l sc X E c' C h.1.1) (sndSs C hfn a a' h.1.2) (sndSs C hfn b b' h.2)
    | _ => simp [mtS] at h
  | .whl c b, s, h => by
    cases s with
    | While c' b' e p =>
      cases e with
      | nil =>
        simp only [mtS, Bool.and_eq_true] at h
        exact snd_while C.G (sndE c l sc X E c' C h.1) (sndSs C hfn b b' h.2)
      | cons _ _ => simp [mtS] at h
    | _ => simp [mtS] at h
  | .for_ g src b, s, h => by
    cases s with
    | For tg' it' b' e p =>
      cases e with
      | nil =>
        simp only [mtS, Bool.and_eq_true] at h
        obtain ⟨⟨⟨h1, h2⟩, h3⟩, h4⟩ := h
        exact snd_for C.G (sndI src l sc X E tg' it' C h2) (snd_tg C.G.calm (by rw [C.G.hN]; exact C.G.nd) (fun j x hx => C.tg hfn hx) g tg' h3) (sndSs C hfn b b' h4) h1
      | cons _ _ => simp [mtS] at h
    | _ => simp [mtS] at h
  | .brk, s, h => by
    cases s with
    | Break p => exact snd_brk
    | _ => simp [mtS] at h
  | .pass_, s, h => by
    cases s with
    | Pass p => exact snd_pass
    | _ => simp [mtS] at h
  | .raise c es, s, h => by
    cases s with
    | Raise e k p =>
      cases e with
      | none => simp [mtS] at h
      | some e =>
        cases k with
        | some _ => cases e with
          | Call fn xs kws p2 => cases fn with
            | Name y p3 => rcases xs with _ | ⟨x, xs⟩ <;> cases kws <;> simp [mtS] at h
            | _ => simp [mtS] at h
          | _ => simp [mtS] at h
        | none =>
          cases e with
          | Call fn xs kws p2 =>
            cases fn with
            | Name y p3 =>
              cases kws with
              | cons _ _ => rcases xs with _ | ⟨x, xs⟩ <;> simp [mtS] at h
              | nil =>
                rcases xs with _ | ⟨x, xs⟩
                · simp [mtS] at h
                · simp only [mtS, Bool.and_eq_true] at h
                  obtain ⟨⟨⟨⟨h0, h1⟩, h2⟩, h3⟩, h4⟩ := h
                  have h0 := of_decide_eq_true h0
                  subst h0
                  rw [C.P] at h2
                  exact snd_raise C.G (fun r hr => C.L.exc c r hr) (C.gl h1) h2 (sndEs es l sc X E _ C h4) h3
            | _ => simp [mtS] at h
          | _ => simp [mtS] at h
    | _ => simp [mtS] at h
  | .frz i, s, h => by simp [mtS] at h
theorem sndSs {m : Mt} {Γ : Gm} {n : Nat} {lm l : Bool} {sc : Scope} {X : Cx} {E : XK} (C : Ctx m Γ n sc lm l X E) (hfn : ∀ x, X.fn x = true) : ∀ (s : Sms) (b : List Stmt), mtSs m l sc s b = true → SS Γ E X s b
  | .nil, b, h => by
    cases b with
    | nil => exact snd_snil
    | cons _ _ => simp [mtSs] at h
  | .cons s r, b, h => by
    by_cases hf : ∃ i, s = .frz i
    · obtain ⟨i, rfl⟩ := hf
      simp only [mtSs] at h
      exact snd_frz (sndSs C hfn r b h)
    · have h' : ∃ s' r', b = s' :: r' ∧ mtS m l sc s s' = true ∧ mtSs m l sc r r' = true := by
        cases b with
        | nil => cases s <;> first | (simp [mtSs] at h; done) | exact absurd ⟨_, rfl⟩ hf
        | cons s' r' => refine ⟨s', r', rfl, ?_⟩; cases s <;> first | (simpa [mtSs] using h; done) | exact absurd ⟨_, rfl⟩ hf
      obtain ⟨s', r', rfl, h1, h2⟩ := h'
      exact snd_scons (sndS C hfn s s' h1) (sndSs C hfn r r' h2)
end
end Ice
end

section
set_option Elab.async false
set_option linter.all false
set_option maxRecDepth 100000
set_option maxHeartbeats 4000000
namespace Ice
open PySem PySem.Spec PyProof.Rows PySem.W L2
theorem lookup_zip {α : Type} : ∀ {ns : List Str} {us : List α} {n : Str} {u : α}, ns.Nodup → (n, u) ∈ ns.zip us → (ns.zip us).lookup n = some u
  | [], _, _, _, _, h => by simp at h
  | _ :: _, [], _, _, _, h => by simp at h
  | a :: ns, v :: us, n, u, nd, h => by
    rw [List.zip_cons_cons] at h ⊢
    rcases List.mem_cons.mp h with e | h
    · cases e
      exact List.lookup_cons_self
    · have hn : n ≠ a := fun e => (List.nodup_cons.mp nd).1 (by rw [← e]; exact (List.of_mem_zip h).1)
      rw [List.lookup_cons, beq_eq_false_iff_ne.mpr hn]
      exact lookup_zip (List.nodup_cons.mp nd).2 h
theorem filterMap_zip {α : Type} : ∀ {ns : List Str} {us : List α} (f : Str → Option α), ns.length = us.length → (∀ n u, (n, u) ∈ ns.zip us → f n = some u) → ns.filterMap (fun n => (f n).map fun v => (n, v)) = ns.zip us
  | [], us, f, hl, h => by cases us <;> simp at hl ⊢
  | a :: ns, [], f, hl, h => by simp at hl
  | a :: ns, v :: us, f, hl, h => by
    rw [List.zip_cons_cons, List.filterMap_cons, h a v (by rw [List.zip_cons_cons]; exact List.mem_cons_self)]
    simp only [Option.map_some]
    rw [filterMap_zip f (by simpa using hl) fun n u hm => h n u (by rw [List.zip_cons_cons]; exact List.mem_cons_of_mem _ hm)]
theorem bind_pos {x qual : Str} {args : List Arg} {dfl : List Expr} {body : List Stmt} {scope : Scope} {kV doc pm cdv ct : Value} {an : Option Addr} {us : List Value} (nd : (args.map (·.arg)).Nodup) (hl : us.length = args.length) :
    bindArgs (PySem.W.fnOf x qual ⟨[], args, none, [], [], none, dfl⟩ body scope .none kV doc pm an cdv ct) ⟨us, []⟩ = pure ((args.map (·.arg)).zip us) := by
  have e1 : ((args.map (·.arg)).take ((args.map (·.arg)).length - 0)).filter (fun n => (((args.map (·.arg)).zip us).lookup n).isNone) = [] := by
    rw [Nat.sub_zero, List.take_length, List.filter_eq_nil_iff]
    intro n hn
    obtain ⟨i, hi, e⟩ := List.mem_iff_getElem.mp hn
    have hi' : i < us.length := by rw [hl]; simpa using hi
    have hm : (n, us[i]) ∈ (args.map (·.arg)).zip us := by
      rw [← e]
      exact List.mem_iff_getElem.mpr ⟨i, by simp [hl]; simpa using hi, by simp⟩
    rw [lookup_zip nd hm]
    simp
  have e2 : (args.map (·.arg)).filterMap (fun n => (((args.map (·.arg)).zip us).lookup n).map fun v => (n, v)) = (args.map (·.arg)).zip us := filterMap_zip _ (by simp [hl]) fun n u hm => lookup_zip nd hm
  have e0 : seqItems? Value.none = pure none := rfl
  have e3 : ¬ (decide (us.length > (args.map (·.arg)).length) && (none : Option Arg).isNone) = true := by simp [hl]
  unfold bindArgs
  simp only [List.map_nil, List.nil_append, List.forIn_nil, pure_bind, e0, Option.getD_none, List.length_nil, Nat.zero_sub, List.drop_nil, List.zip_nil_right, List.append_nil]
  rw [if_neg (by simp [hl])]
  simp only [e1]
  rw [if_neg (by simp)]
  rw [if_neg (by simp)]
  rw [e2]
end Ice
end

section
set_option Elab.async false
set_option linter.all false
set_option maxRecDepth 100000
set_option maxHeartbeats 4000000
namespace Ice
open PySem PySem.Spec PyProof.Rows PySem.W L2

def scopeB (N ps : List Str) (sc : Scope) : Bool := decide (sc.kind = .function) && (!sc.isCoroutine) && (!sc.isGenerator) && decide N.Nodup && decide (N.take ps.length = ps) &&
  (ps.all fun x => decide (sc.names.lookup x = some .local) || decide (sc.names.lookup x = some .cell)) && (sc.names.all fun y => !decide (y.2 = .free))
theorem scopeB_ok {N ps : List Str} {sc : Scope} (h : scopeB N ps sc = true) : FnScope N ps sc := by
  unfold scopeB at h
  simp only [Bool.and_eq_true, decide_eq_true_eq, Bool.not_eq_true', List.all_eq_true, Bool.or_eq_true, decide_eq_false_iff_not] at h
  obtain ⟨⟨⟨⟨⟨⟨h1, h2⟩, h3⟩, h4⟩, h5⟩, h6⟩, h7⟩ := h
  exact ⟨h1, h2, h3, h4, h5, h6, h7⟩
def isNoneV : Value → Bool
  | .none => true
  | _ => false
/-- the table of a code object that makes lambdas -/
def lamTB (TB : List (Addr × Str)) (cs : List (Addr × Addr)) (cdv : Value) (qual : Str) : Bool := match cdv with
  | .ref c => (match cs.lookup c with
    | some Pt => decide (TB.lookup Pt = some (qual ++ ".<locals>." ++ "<lambda>"))
    | none => false)
  | _ => false
/-- what K tells of a def's object -/
def fdB (K : PySem.W.Frag) (fN : String → Str) (TB : List (Addr × Str)) (cs : List (Addr × Addr)) (P : Tab) (l : Bool) (F : Fn) (fd : FuncData) : Bool := match fd with
  | ⟨_, qual, ⟨[], args, none, [], [], none, _⟩, .stmts body, sc, g, [], dV, _, _, _, _, cdv, _, b⟩ =>
    decide (g = mainGlobals) && decide (b = builtinsNs) && codeIn K cdv qual && scopeB (F.N.map nm) (args.map (·.arg)) sc && decide (args.length = F.np) && decide (F.dfl.length = 0) && isNoneV dV && (!l || lamTB TB cs cdv qual) && mtSs ⟨F.N.map nm, fN, P⟩ l sc F.body body
  | _ => false
def fnB (K : PySem.W.Frag) (fA : String → Addr) (fN : String → Str) (TB : List (Addr × Str)) (cs : List (Addr × Addr)) (P : Tab) (l : Bool) (f : String) (F : Fn) : Bool := match K.lookup (fA f) with
  | some ⟨_, _, .func fd, _⟩ => fdB K fN TB cs P l F fd
  | _ => false
structure FnS (K : PySem.W.Frag) (fN : String → Str) (TB : List (Addr × Str)) (cs : List (Addr × Addr)) (P : Tab) (l : Bool) (a : Addr) (F : Fn) : Prop where
  ex : ∃ (oc : Value) (od : Option Addr) (name qual : Str) (args : List Arg) (dfl : List Expr) (body : List Stmt) (sc : Scope) (kV doc pm : Value) (an : Option Addr) (cdv ct : Value) (osl : Array (Option Value)),
    K.lookup a = some ⟨oc, od, .func (PySem.W.fnOf name qual ⟨[], args, none, [], [], none, dfl⟩ body sc .none kV doc pm an cdv ct), osl⟩ ∧ codeIn K cdv qual = true ∧ FnScope (F.N.map nm) (args.map (·.arg)) sc ∧ args.length = F.np ∧ F.dfl = [] ∧
    (l = true → lamTB TB cs cdv qual = true) ∧ mtSs ⟨F.N.map nm, fN, P⟩ l sc F.body body = true
theorem fnB_ok {K : PySem.W.Frag} {fA : String → Addr} {fN : String → Str} {TB : List (Addr × Str)} {cs : List (Addr × Addr)} {P : Tab} {l : Bool} {f : String} {F : Fn} (h : fnB K fA fN TB cs P l f F = true) : FnS K fN TB cs P l (fA f) F := by
  unfold fnB at h
  split at h
  · rename_i oc od fd osl lk
    unfold fdB at h
    split at h
    · rename_i name qual args dfl body sc g dV kV doc pm an cdv ct b
      simp only [Bool.and_eq_true, decide_eq_true_eq, Bool.or_eq_true, Bool.not_eq_true'] at h
      obtain ⟨⟨⟨⟨⟨⟨⟨⟨rfl, rfl⟩, h3⟩, h4⟩, h5⟩, h6⟩, h7⟩, h8⟩, h9⟩ := h
      have : dV = .none := by cases dV <;> first | rfl | cases h7
      subst this
      refine ⟨⟨oc, od, name, qual, args, dfl, body, sc, kV, doc, pm, an, cdv, ct, osl, lk, h3, scopeB_ok h4, h5, List.eq_nil_of_length_eq_zero h6, fun e => ?_, h9⟩⟩
      rcases h8 with q | q
      · rw [e] at q; cases q
      · exact q
    · cases h
  · cases h
/-! ### a def of five parameters, the last two zero if they are left out -/
def zerosB (K : PySem.W.Frag) (dV : Value) : Bool := match dV with
  | .ref T => (match K.lookup T with
    | some ⟨_, _, .seq its _, _⟩ => (match its.toList with
      | [.int a _, .int b _] => decide (a = 0) && decide (b = 0)
      | _ => false)
    | _ => false)
  | _ => false
def zz : List T → Bool
  | [.int a, .int b] => decide (a = 0) && decide (b = 0)
  | _ => false
def hFdB (K : PySem.W.Frag) (fN : String → Str) (P : Tab) (F : Fn) (fd : FuncData) : Bool := match fd with
  | ⟨_, qual, ⟨[], [a1, a2, a3, a4, a5], none, [], [], none, _⟩, .stmts body, sc, g, [], dV, _, _, _, _, cdv, _, b⟩ =>
    decide (g = mainGlobals) && decide (b = builtinsNs) && codeIn K cdv qual && scopeB (F.N.map nm) [a1.arg, a2.arg, a3.arg, a4.arg, a5.arg] sc && decide (F.np = 5) && zz F.dfl && zerosB K dV && decide (a1.arg = "self") && decide (a2.arg = "days") && decide (a3.arg = "warmth") && decide (a4.arg = "door") && decide (a5.arg = "straw") && mtSs ⟨F.N.map nm, fN, P⟩ false sc F.body body
  | _ => false
def hFnB (K : PySem.W.Frag) (fA : String → Addr) (fN : String → Str) (P : Tab) (f : String) (F : Fn) : Bool := match K.lookup (fA f) with
  | some ⟨_, _, .func fd, _⟩ => hFdB K fN P F fd
  | _ => false
structure FnH (K : PySem.W.Frag) (fN : String → Str) (P : Tab) (a : Addr) (F : Fn) : Prop where
  ex : ∃ (oc : Value) (od : Option Addr) (name qual : Str) (p1 p2 p3 p4 p5 : Option Expr × Pos) (dfl : List Expr) (body : List Stmt) (sc : Scope) (dV kV doc pm : Value) (an : Option Addr) (cdv ct : Value) (osl : Array (Option Value)) (args : List Arg),
    args = [⟨"self", p1.1, p1.2⟩, ⟨"days", p2.1, p2.2⟩, ⟨"warmth", p3.1, p3.2⟩, ⟨"door", p4.1, p4.2⟩, ⟨"straw", p5.1, p5.2⟩] ∧
    K.lookup a = some ⟨oc, od, .func (PySem.W.fnOf name qual ⟨[], args, none, [], [], none, dfl⟩ body sc dV kV doc pm an cdv ct), osl⟩ ∧ codeIn K cdv qual = true ∧ FnScope (F.N.map nm) (args.map (·.arg)) sc ∧ F.np = 5 ∧ F.dfl = [.int 0, .int 0] ∧
    zerosB K dV = true ∧ mtSs ⟨F.N.map nm, fN, P⟩ false sc F.body body = true
theorem hFnB_ok {K : PySem.W.Frag} {fA : String → Addr} {fN : String → Str} {P : Tab} {f : String} {F : Fn} (h : hFnB K fA fN P f F = true) : FnH K fN P (fA f) F := by
  unfold hFnB at h
  split at h
  · rename_i oc od fd osl lk
    unfold hFdB at h
    split at h
    · rename_i name qual a1 a2 a3 a4 a5 dfl body sc g dV kV doc pm an cdv ct b
      simp only [Bool.and_eq_true, decide_eq_true_eq] at h
      obtain ⟨⟨⟨⟨⟨⟨⟨⟨⟨⟨⟨⟨rfl, rfl⟩, h3⟩, h4⟩, h5⟩, h6⟩, h7⟩, e1⟩, e2⟩, e3⟩, e4⟩, e5⟩, h9⟩ := h
      obtain ⟨n1, q1, r1⟩ := a1
      obtain ⟨n2, q2, r2⟩ := a2
      obtain ⟨n3, q3, r3⟩ := a3
      obtain ⟨n4, q4, r4⟩ := a4
      obtain ⟨n5, q5, r5⟩ := a5
      subst e1 e2 e3 e4 e5
      have hz : F.dfl = [.int 0, .int 0] := by
        unfold zz at h6
        split at h6
        · rename_i a b e
          simp only [Bool.and_eq_true, decide_eq_true_eq] at h6
          rw [e, h6.1, h6.2]
        · cases h6
      exact ⟨⟨oc, od, name, qual, (q1, r1), (q2, r2), (q3, r3), (q4, r4), (q5, r5), dfl, body, sc, dV, kV, doc, pm, an, cdv, ct, osl, _, rfl, lk, h3, scopeB_ok h4, h5, hz, h7, h9⟩⟩
    · cases h
  · cases h
section
variable {Pg : Program} {w : World} {K : PySem.W.Frag} {mg : Str → Option Value} {base : Heap} {Λ : Lay} {TB : List (Addr × Str)} {cs : List (Addr × Addr)} {P : Tab}
theorem DensD.len {c : Cfg} : ∀ {ds : List D} {vs : List V}, DensD K Λ c ds vs → vs.length = ds.length
  | [], vs, h => by
    have h : vs = [] := h
    rw [h]
    rfl
  | d :: ds, vs, h => by
    obtain ⟨v, r, rfl, _, h⟩ := h
    simp [DensD.len h]
theorem start_env {F : Fn} {c : Cfg} {ds : List D} {vs : List V} (h : DensD K Λ c ds vs) : EnvR K Λ c (startE F ds) (L2.start (F.N.map nm) vs) := by
  refine ⟨by simp [startE, L2.start, h.len], fun i d hi => ?_⟩
  unfold startE at hi
  by_cases hl : i < ds.length
  · rw [List.getElem?_append_left (by simpa using hl), List.getElem?_map] at hi
    cases e : ds[i]? with
    | none => rw [e] at hi; cases hi
    | some x =>
      rw [e] at hi
      cases hi
      obtain ⟨v, hv, hd⟩ := h.get e
      refine ⟨v, ?_, hd⟩
      unfold L2.start
      rw [List.getElem?_append_left (by simp [h.len]; exact hl), List.getElem?_map, hv]
      rfl
  · rw [List.getElem?_append_right (by simpa using hl), List.getElem?_replicate] at hi
    split at hi <;> cases hi
theorem end_ok {Γ : Gm} {E : XK} {c : Cfg} {H : Hp} {Q : VK} {w : Fw} (h : WpG K Γ E (endF w) c H (DenD K Γ.Λ) Q) : WpF K Γ E w c H { nx := fun _ H' => Q .non H', rt := Q } := by
  cases w with
  | nx ρ st => exact fun c' H' σ' a e _ => h c' H' .non a e rfl
  | rt d st => exact fun c' H' v a e hd => h c' H' v a e hd
  | ex e st => exact h
  | bk ρ st => exact h.elim
  | no => exact h.elim
/-- the facts about K that the tables want -/
structure TabS (mg : Str → Option Value) (base : Heap) (TB : List (Addr × Str)) (cs : List (Addr × Addr)) : Prop where
  code : ∀ c Pt, cs.lookup c = some Pt → LamX.TabB base mg c Pt
  uniq : ∀ p q, TB.lookup p = some q → (p, q) ∈ TB ∧ ∀ r ∈ TB, r.1 = p → r.2 = q
/-- a def run from outside -/
def runF (P : Tab) (n : Nat) (F : Fn) (ds : List D) (st : Store) : R D := endF (execSs P (callN P n) F.body (startE F ds) st)
def spF (K : PySem.W.Frag) (Λ : Lay) (TB : List (Addr × Str)) (P : Tab) (n : Nat) (F : Fn) : Sp := fun vs H Q E => ∃ c ds, Rel K Λ TB c H ∧ DensD K Λ c ds vs ∧ ds.length = F.np ∧ WpG K ⟨Λ, TB, P, callN P n⟩ E (runF P n F ds c.st) c H (DenD K Λ) Q
theorem spF_of {n : Nat} {f : String} {F : Fn} (hP : P.fn f = some F) {vs : List V} {H : Hp} {Q : VK} {E : XK} (h : spI K ⟨Λ, TB, P, callN P (n + 1)⟩ f F.np vs H Q E) : spF K Λ TB P n F vs H Q E := by
  obtain ⟨c, ds, h1, h2, h3, h4⟩ := h
  refine ⟨c, ds, h1, h2, h3, ?_⟩
  have e : callN P (n + 1) f ds c.st = runF P n F ds c.st := by
    show (match P.fn f with
      | some F => if ds.length = F.np then endF (execSs P (callN P n) F.body (startE F ds) c.st) else .no
      | none => .no) = _
    rw [hP]
    exact if_pos h3
  have h4' : WpG K ⟨Λ, TB, P, callN P n⟩ E (callN P (n + 1) f ds c.st) c H (DenD K Λ) Q := h4
  rw [e] at h4'
  exact h4'
/-- the body of a def of the text at its entry -/
theorem body_ok {n : Nat} {a : Addr} {F : Fn} {qual : Str} {args : List Arg} {body : List Stmt} {sc : Scope} {cdv : Value} {l : Bool} (hcd : codeIn K cdv qual = true) (hS : FnScope (F.N.map nm) (args.map (·.arg)) sc)
    (hlam : l = true → lamTB TB cs cdv qual = true) (hmt : mtSs ⟨F.N.map nm, Λ.fN, P⟩ l sc F.body body = true) (L1 : Lnk Pg w K mg base ⟨Λ, TB, P, callN P n⟩ n) (Lb : Lnk2 Pg w K mg base ⟨Λ, TB, P, callN P n⟩) (T : TabS mg base TB cs)
    (A : Around) (outer : List PySem.Env) (s : Shared) (H : Hp) (vs : List V) (Q : VK) (E : XK) (hg : l = true → A.guards = some []) (hr : Room (lev n + 4) (A.deeper (envOfC qual sc s.heap.objs.size a cdv))) (hsp : spF K Λ TB P n F vs H Q E) :
    PSs (cxOf (CX Pg w) Pg w K mg base (F.N.map nm) qual sc a cdv A outer s H E) body (rSs K ⟨Λ, TB, P, callN P n⟩ E F.body) ∧ rSs K ⟨Λ, TB, P, callN P n⟩ E F.body { nx := fun _ H' => Q .non H', rt := Q } (L2.start (F.N.map nm) vs) H := by
  obtain ⟨c, ds, h1, h2, h3, h4⟩ := hsp
  refine ⟨?_, c, startE F ds, ⟨h1, start_env h2⟩, end_ok (Γ := ⟨Λ, TB, P, callN P n⟩) h4⟩
  refine sndSs (m := ⟨F.N.map nm, Λ.fN, P⟩) (n := n) (lm := false) (l := l) (sc := sc) ⟨⟨rfl, hS.nd, rfl, rfl, (by exact hr), takes_of rfl rfl rfl rfl, passes_of rfl, L1⟩, rfl, rfl, Lb, fun hl => ⟨rfl, ?_, (by exact hg hl)⟩⟩ (fun _ => rfl) F.body body hmt
  have q := hlam hl
  unfold lamTB at q
  split at q
  · rename_i c0
    split at q
    · rename_i Pt hPt
      obtain ⟨q1, q2⟩ := T.uniq _ _ (of_decide_eq_true q)
      exact ⟨c0, Pt, T.code _ _ hPt, rfl, q1, q2⟩
    · cases q
  · cases q
theorem spI_len {Γ : Gm} {f : String} {np : Nat} {vs : List V} {H : Hp} {Q : VK} {E : XK} (h : spI K Γ f np vs H Q E) : vs.length = np := by
  obtain ⟨c, ds, _, h2, h3, _⟩ := h
  rw [h2.len, h3]
/-- a def of the text, one level up -/
theorem fn_step {n : Nat} {f : String} {F : Fn} (S : FnS K Λ.fN TB cs P false (Λ.fA f) F) (hP : P.fn f = some F) (L1 : Lnk Pg w K mg base ⟨Λ, TB, P, callN P n⟩ n) (Lb : Lnk2 Pg w K mg base ⟨Λ, TB, P, callN P n⟩) (T : TabS mg base TB cs)
    (hk : PySem.W.keepIn K (.ref (Λ.fA f)) = true) :
    FnL Pg w K mg base ⟨Λ, TB, P, callN P (n + 1)⟩ (lev (n + 1)) f F := by
  obtain ⟨oc, od, name, qual, args, dfl, body, sc, kV, doc, pm, an, cdv, ct, osl, lk, hcd, hS, hnp, hdf, hlam, hmt⟩ := S.ex
  have e1 : (args.map (·.arg)).length = F.np := by simpa using hnp
  refine ⟨⟨PySem.W.fnOf name qual ⟨[], args, none, [], [], none, dfl⟩ body sc .none kV doc pm an cdv ct, args.map (·.arg), e1, ?_, fun j hj => ⟨[], [], .all fun us hl => ?_, .nil, fun c => ?_⟩⟩, hk⟩
  · have : lev (n + 1) = (lev n + 4) + 1 := by unfold lev; omega
    rw [this]
    exact fn_of lk hcd hS (fun vs H Q E h => by rw [spI_len h, e1]) fun A outer s H vs Q E hr hsp => ⟨_, body_ok hcd hS hlam hmt L1 Lb T A outer s H vs Q E (fun z => by cases z) hr (spF_of hP hsp)⟩
  · exact bind_pos (by have q := hS.nd.sublist (List.take_sublist (args.map (·.arg)).length _); rwa [hS.pre] at q) (by rw [hl]; simp)
  · rw [hdf, List.drop_nil]
    rfl
theorem fn_zero {f : String} {F : Fn} (S : FnS K Λ.fN TB cs P false (Λ.fA f) F) (hk : PySem.W.keepIn K (.ref (Λ.fA f)) = true) : FnL Pg w K mg base ⟨Λ, TB, P, callN P 0⟩ (lev 0) f F := by
  obtain ⟨oc, od, name, qual, args, dfl, body, sc, kV, doc, pm, an, cdv, ct, osl, lk, hcd, hS, hnp, hdf, hlam, hmt⟩ := S.ex
  have e1 : (args.map (·.arg)).length = F.np := by simpa using hnp
  refine ⟨⟨PySem.W.fnOf name qual ⟨[], args, none, [], [], none, dfl⟩ body sc .none kV doc pm an cdv ct, args.map (·.arg), e1, ?_, fun j hj => ⟨[], [], .all fun us hl => ?_, .nil, fun c => ?_⟩⟩, hk⟩
  · refine ⟨fun vs H Q E h => by rw [spI_len h, e1], fun A outer s H args us vs Q E _ _ _ _ h => ?_⟩
    obtain ⟨c, ds, _, _, _, z⟩ := h
    exact z.elim
  · exact bind_pos (by have q := hS.nd.sublist (List.take_sublist (args.map (·.arg)).length _); rwa [hS.pre] at q) (by rw [hl]; simp)
  · rw [hdf, List.drop_nil]
    rfl
theorem hBinds {name qual : Str} {p1 p2 p3 p4 p5 : Option Expr × Pos} {dfl : List Expr} {body : List Stmt} {sc : Scope} {dV kV doc pm : Value} {an : Option Addr} {cdv ct : Value} (h : zerosB K dV = true) :
    ∃ t1 t2 : Tok, Binds K (PySem.W.fnOf name qual ⟨[], [⟨"self", p1.1, p1.2⟩, ⟨"days", p2.1, p2.2⟩, ⟨"warmth", p3.1, p3.2⟩, ⟨"door", p4.1, p4.2⟩, ⟨"straw", p5.1, p5.2⟩], none, [], [], none, dfl⟩ body sc dV kV doc pm an cdv ct) ["self", "days", "warmth", "door", "straw"] [] ∧
      Binds K (PySem.W.fnOf name qual ⟨[], [⟨"self", p1.1, p1.2⟩, ⟨"days", p2.1, p2.2⟩, ⟨"warmth", p3.1, p3.2⟩, ⟨"door", p4.1, p4.2⟩, ⟨"straw", p5.1, p5.2⟩], none, [], [], none, dfl⟩ body sc dV kV doc pm an cdv ct) ["self", "days", "warmth", "door", "straw"] [.int 0 t2] ∧
      Binds K (PySem.W.fnOf name qual ⟨[], [⟨"self", p1.1, p1.2⟩, ⟨"days", p2.1, p2.2⟩, ⟨"warmth", p3.1, p3.2⟩, ⟨"door", p4.1, p4.2⟩, ⟨"straw", p5.1, p5.2⟩], none, [], [], none, dfl⟩ body sc dV kV doc pm an cdv ct) ["self", "days", "warmth", "door", "straw"] [.int 0 t1, .int 0 t2] := by
  unfold zerosB at h
  split at h
  · rename_i T
    split at h
    · rename_i c d its n sl lT
      split at h
      · rename_i a t1 b t2 e
        simp only [Bool.and_eq_true, decide_eq_true_eq] at h
        obtain ⟨rfl, rfl⟩ := h
        have hi : its = #[.int 0 t1, .int 0 t2] := by
          rw [← Array.toList_inj, e]
        subst hi
        refine ⟨t1, t2, ?_, ?_, ?_⟩
        · intro s0 us KX hl
          have hl : us.length = 5 := by simpa using hl
          match us, hl with
          | [u1, u2, u3, u4, u5], _ => exact BindsTo.of_looks fun M => looks_items KX lT rfl (.of_pure (by rfl))
        · intro s0 us KX hl
          have hl : us.length = 4 := by simpa using hl
          match us, hl with
          | [u1, u2, u3, u4], _ => exact BindsTo.of_looks fun M => looks_items KX lT rfl (.of_pure (by rfl))
        · intro s0 us KX hl
          have hl : us.length = 3 := by simpa using hl
          match us, hl with
          | [u1, u2, u3], _ => exact BindsTo.of_looks fun M => looks_items KX lT rfl (.of_pure (by rfl))
      · cases h
    · cases h
  · cases h
theorem fnL_h {Γ : Gm} {k : Nat} {f : String} {F : Fn} {name qual : Str} {p1 p2 p3 p4 p5 : Option Expr × Pos} {dfl : List Expr} {body : List Stmt} {sc : Scope} {dV kV doc pm : Value} {an : Option Addr} {cdv ct : Value} (hz : zerosB K dV = true) (hnp : F.np = 5) (hdf : F.dfl = [.int 0, .int 0]) (hk : PySem.W.keepIn K (.ref (Γ.Λ.fA f)) = true)
    (hok : FnOk Pg w K mg base (CX Pg w) k (Γ.Λ.fA f) (PySem.W.fnOf name qual ⟨[], [⟨"self", p1.1, p1.2⟩, ⟨"days", p2.1, p2.2⟩, ⟨"warmth", p3.1, p3.2⟩, ⟨"door", p4.1, p4.2⟩, ⟨"straw", p5.1, p5.2⟩], none, [], [], none, dfl⟩ body sc dV kV doc pm an cdv ct) ["self", "days", "warmth", "door", "straw"] (spI K Γ f F.np)) : FnL Pg w K mg base Γ k f F := by
  obtain ⟨t1, t2, b0, b1, b2⟩ := hBinds (K := K) (name := name) (qual := qual) (p1 := p1) (p2 := p2) (p3 := p3) (p4 := p4) (p5 := p5) (dfl := dfl) (body := body) (sc := sc) (kV := kV) (doc := doc) (pm := pm) (an := an) (cdv := cdv) (ct := ct) hz
  refine ⟨⟨_, _, by rw [hnp]; rfl, hok, fun j hj => ?_⟩, hk⟩
  rw [hdf] at hj ⊢
  match j, hj with
  | 0, _ => exact ⟨[], [], b0, .nil, fun c => rfl⟩
  | 1, _ => exact ⟨_, [.int 0], b1, .cons ⟨_, rfl⟩ .nil, fun c => ⟨_, _, rfl, rfl, rfl⟩⟩
  | 2, _ => exact ⟨_, [.int 0, .int 0], b2, .cons ⟨_, rfl⟩ (.cons ⟨_, rfl⟩ .nil), fun c => ⟨_, _, rfl, rfl, _, _, rfl, rfl, rfl⟩⟩
theorem fnH_step {n : Nat} {f : String} {F : Fn} (S : FnH K Λ.fN P (Λ.fA f) F) (hP : P.fn f = some F) (L1 : Lnk Pg w K mg base ⟨Λ, TB, P, callN P n⟩ n) (Lb : Lnk2 Pg w K mg base ⟨Λ, TB, P, callN P n⟩) (T : TabS mg base TB cs)
    (hk : PySem.W.keepIn K (.ref (Λ.fA f)) = true) :
    FnL Pg w K mg base ⟨Λ, TB, P, callN P (n + 1)⟩ (lev (n + 1)) f F := by
  obtain ⟨oc, od, name, qual, p1, p2, p3, p4, p5, dfl, body, sc, dV, kV, doc, pm, an, cdv, ct, osl, args, rfl, lk, hcd, hS, hnp, hdf, hz, hmt⟩ := S.ex
  refine fnL_h (name := name) (qual := qual) (p1 := p1) (p2 := p2) (p3 := p3) (p4 := p4) (p5 := p5) (dfl := dfl) (body := body) (sc := sc) (kV := kV) (doc := doc) (pm := pm) (an := an) (cdv := cdv) (ct := ct) hz hnp hdf hk ?_
  have : lev (n + 1) = (lev n + 4) + 1 := by unfold lev; omega
  rw [this]
  exact fn_of lk hcd hS (fun vs H Q E h => by rw [spI_len h, hnp]; rfl) fun A outer s H vs Q E hr hsp => ⟨_, body_ok (l := false) (cs := cs) hcd hS (fun z => by cases z) hmt L1 Lb T A outer s H vs Q E (fun z => by cases z) hr (spF_of hP hsp)⟩
theorem fnH_zero {f : String} {F : Fn} (S : FnH K Λ.fN P (Λ.fA f) F) (hk : PySem.W.keepIn K (.ref (Λ.fA f)) = true) : FnL Pg w K mg base ⟨Λ, TB, P, callN P 0⟩ (lev 0) f F := by
  obtain ⟨oc, od, name, qual, p1, p2, p3, p4, p5, dfl, body, sc, dV, kV, doc, pm, an, cdv, ct, osl, args, rfl, lk, hcd, hS, hnp, hdf, hz, hmt⟩ := S.ex
  refine fnL_h (name := name) (qual := qual) (p1 := p1) (p2 := p2) (p3 := p3) (p4 := p4) (p5 := p5) (dfl := dfl) (body := body) (sc := sc) (kV := kV) (doc := doc) (pm := pm) (an := an) (cdv := cdv) (ct := ct) hz hnp hdf hk ?_
  refine ⟨fun vs H Q E h => by rw [spI_len h, hnp]; rfl, fun A outer s H args us vs Q E _ _ _ _ h => ?_⟩
  obtain ⟨c, ds, _, _, _, z⟩ := h
  exact z.elim
/-- the law itself, as it is called: at the caller's own frame -/
theorem fn_run {n : Nat} {a : Addr} {F : Fn} {l : Bool} (S : FnS K Λ.fN TB cs P l a F) (L1 : Lnk Pg w K mg base ⟨Λ, TB, P, callN P n⟩ n) (Lb : Lnk2 Pg w K mg base ⟨Λ, TB, P, callN P n⟩) (T : TabS mg base TB cs)
    {A : Around} {outer : List PySem.Env} {s : Shared} {H : Hp} {us : List Value} {vs : List V} {Q : VK} {E : XK} (hg : l = true → A.guards = some []) (hr : Room (lev n + 5) A) (e0 : Env0 Pg w K mg base A outer s H) (rv : Vals vs us) (hsp : spF K Λ TB P n F vs H Q E) :
    codeAny (model Pg w) A (.call (.ref a) ⟨us, []⟩) (CR (CX Pg w) outer Pg w H s Q E) s := by
  obtain ⟨oc, od, name, qual, args, dfl, body, sc, kV, doc, pm, an, cdv, ct, osl, lk, hcd, hS, hnp, hdf, hlam, hmt⟩ := S.ex
  have hl : vs.length = (args.map (·.arg)).length := by
    obtain ⟨c, ds, _, h2, h3, _⟩ := hsp
    rw [h2.len, h3]
    simpa using hnp.symm
  have kin := e0.mod.kin.keeps fun b o e => (e0.bs b o e).1
  have hb : BindsTo s (PySem.W.fnOf name qual ⟨[], args, none, [], [], none, dfl⟩ body sc .none kV doc pm an cdv ct) ⟨us, []⟩ ((args.map (·.arg)).zip us) :=
    .of_eq (bind_pos (by have q := hS.nd.sublist (List.take_sublist (args.map (·.arg)).length _); rwa [hS.pre] at q) (by rw [← rv.length, hl]; simp))
  refine codeAny_call_function hr.depth (kin _ _ lk) rfl hS.co hS.gen rfl (PySem.W.codeRec_of kin hcd) (hb _ _ _ _ ?_)
  refine wpAny_newFunctionEnv_cells hS.kind (fun ⟨y, v⟩ hy => (hS.par y (List.of_mem_zip hy).1).imp id fun q => ⟨q, PySem.W.cellsFrom_some _ _ _ (.inl q)⟩) fun env he s1 x => ?_
  subst he
  obtain ⟨ht, hq⟩ := body_ok hcd hS hlam hmt L1 Lb T A outer s H vs Q E hg (hr.deeper _) hsp
  have lim := e0.mod.nolimit.keeps fun b o e => (e0.bs b o e).1
  refine ⟨lim.keeps x.toInCall.keep, codeAny_func (wpAny_mono (ht.run [] s1 _ H _ (inv_start hS hr.hd e0 hl rv x) hq) (fun fl s' hs => ?_) fun _ _ hs => hs)⟩
  cases fl with
  | ret u =>
    obtain ⟨v, σ', H', J, ru, q⟩ := hs
    exact ⟨v, H', J.os, J.bare, J.base, J.hok, ru, q⟩
  | next =>
    obtain ⟨σ', H', J, q⟩ := hs
    exact ⟨V.non, H', J.os, J.bare, J.base, J.hok, rfl, q⟩
  | brk =>
    obtain ⟨_, _, _, q⟩ := hs
    exact q.elim
  | cont =>
    obtain ⟨_, _, _, q⟩ := hs
    exact q.elim
/-- what is known of the text at a base -/
structure Stat (Pg : Program) (w : World) (K : PySem.W.Frag) (mg : Str → Option Value) (base : Heap) (Λ : Lay) (TB : List (Addr × Str)) (cs : List (Addr × Addr)) (P : Tab) : Prop where
  fn : ∀ f F, P.fn f = some F → (FnS K Λ.fN TB cs P false (Λ.fA f) F ∨ FnH K Λ.fN P (Λ.fA f) F) ∧ PySem.W.keepIn K (.ref (Λ.fA f)) = true
  glf : ∀ f, (P.fn f).isSome = true → dotted f = false → mg (nm f) = some (.ref (Λ.fA f))
  con : ∀ x v, P.con x = some v → ∃ u w, mg (nm x) = some u ∧ RelV w u ∧ ∀ S : Hp, Den K Λ S v w
  blt : ∀ x ∈ bltNames, mg x = none
  cls : ∃ cs : List String, KitOk K Λ cs ∧ ∀ c C, P.cls c = some C → c ∈ cs
  clg : ∀ c C, P.cls c = some C → mg (nm c) = some (.ref (Λ.cA c))
  fld : ∀ c C, P.cls c = some C → ∀ f ∈ C.flds, NoAttr K (Λ.cA c) (Λ.fN f)
  mth : ∀ c C, P.cls c = some C → ∀ m ∈ C.meths, Meth K (Λ.cA c) (Λ.fN m) (Λ.fA (c ++ "." ++ m))
  mks : ∀ c C, P.cls c = some C → Mk K (Λ.cA c) (Λ.fA C.init)
  exc : ∀ c r, P.exc c = some r → ExL Pg w K mg base ⟨Λ, TB, P, callN P 0⟩ c r
  lam : ∀ x hs, P.lam x = some (.refused hs) → LamL K mg ⟨Λ, TB, P, callN P 0⟩ x hs
  tab : TabS mg base TB cs
theorem Stat.l2 (S : Stat Pg w K mg base Λ TB cs P) (n : Nat) : Lnk2 Pg w K mg base ⟨Λ, TB, P, callN P n⟩ :=
  ⟨S.mks, fun c r h => let q := S.exc c r h; ⟨q.T, q.ini, q.na, q.mg⟩, fun x hs h => let q := S.lam x hs h; ⟨q.gl, q.keep, q.ex, q.mgs, q.exm, q.xf, q.na⟩⟩
theorem Stat.l1 (S : Stat Pg w K mg base Λ TB cs P) : ∀ n : Nat, Lnk Pg w K mg base ⟨Λ, TB, P, callN P n⟩ n
  | 0 => ⟨fun f F h => (S.fn f F h).1.elim (fun q => fn_zero q (S.fn f F h).2) (fun q => fnH_zero q (S.fn f F h).2), S.glf, S.con, S.blt, S.cls, S.clg, S.fld, S.mth⟩
  | n + 1 => ⟨fun f F h => (S.fn f F h).1.elim (fun q => fn_step q h (S.l1 n) (S.l2 n) S.tab (S.fn f F h).2) (fun q => fnH_step q h (S.l1 n) (S.l2 n) S.tab (S.fn f F h).2), S.glf, S.con, S.blt, S.cls, S.clg, S.fld, S.mth⟩
end
end Ice
end

section
set_option Elab.async false
set_option linter.all false
set_option maxRecDepth 100000
set_option maxHeartbeats 4000000
namespace Ice
open PySem PySem.Spec PyProof.Rows PySem.W L2
/-! ### the end of a law row, run at the caller's own frame (its guards are known there) -/
abbrev scrO (vs : List Value) : Obj := { cls := .type "list", data := .seq vs.toArray }
abbrev tabO : Obj := { cls := .none, data := .fields #[] }
open Classical in
noncomputable def H0 (K : PySem.W.Frag) (T : List Addr) (a : Addr) (vs : List Value) (ns : List Int) : Hp := fun b =>
  if b ∈ T then some (.tbl #[]) else if b = a ∧ K.lookup a = none then some (.frz (scrO vs) (.lst (ns.map V.int))) else none
section
variable {Pg : Program} {w : World} {K : PySem.W.Frag} {mg mb : Str → Option Value} {s₁ : Shared} {T : List Addr} {a : Addr} {vs : List Value} {ns : List Int}
theorem H0_cases (b : Addr) : (b ∈ T ∧ H0 K T a vs ns b = some (.tbl #[])) ∨ (b ∉ T ∧ b = a ∧ K.lookup a = none ∧ H0 K T a vs ns b = some (.frz (scrO vs) (.lst (ns.map V.int)))) ∨ (b ∉ T ∧ H0 K T a vs ns b = none ∧ (b = a → K.lookup a ≠ none)) := by
  unfold H0
  by_cases h1 : b ∈ T
  · exact .inl ⟨h1, if_pos h1⟩
  · by_cases h2 : b = a ∧ K.lookup a = none
    · exact .inr (.inl ⟨h1, h2.1, h2.2, by rw [if_neg h1, if_pos h2]⟩)
    · exact .inr (.inr ⟨h1, by rw [if_neg h1, if_neg h2], fun e z => h2 ⟨e, z⟩⟩)
structure Entry (K : PySem.W.Frag) (mg mb : Str → Option Value) (s₁ : Shared) (cs : List (Addr × Addr)) (a : Addr) (vs : List Value) (ns : List Int) : Prop where
  kin : K.In s₁.heap
  hns : s₁.heap.Ns mainGlobals mg
  hb : s₁.heap.Ns builtinsNs mb
  hbb : ∀ x : Str, x ≠ "__name__" → mb x = bootBuiltins x
  lim : s₁.heap.NoLimit
  gens : s₁.gens = #[]
  tab : ∀ p ∈ cs, s₁.heap.get? p.2 = some tabO
  ntab : ∀ p ∈ cs, K.lookup p.2 = none
  code : ∀ p ∈ cs, PySem.W.CodeHd s₁.heap p.1 p.2
  bm : ∃ (bm : Addr) (ob : Obj), mg "__builtins__" = some (.ref bm) ∧ bm ≠ builtinsNs ∧ s₁.heap.get? bm = some ob ∧ ob.cls = .type "module" ∧ ob.dict = some builtinsNs ∧ ob.data = .plain
  scr : s₁.heap.get? a = some (scrO vs)
  num : IntsAre vs ns
  fits : ns.length ≤ sizeLine
variable {cs : List (Addr × Addr)}
theorem Entry.tabT (N : Entry K mg mb s₁ cs a vs ns) {b : Addr} (h : b ∈ cs.map (·.2)) : s₁.heap.get? b = some tabO := by
  obtain ⟨p, hp, rfl⟩ := List.mem_map.mp h
  exact N.tab p hp
/-- what H0 hides: a table or the script -/
theorem Entry.hid (N : Entry K mg mb s₁ cs a vs ns) {b : Addr} {o : Obj} (e : s₁.heap.get? b = some o) (h1 : o.data ≠ .fields #[]) (h2 : ∀ us n, o.data ≠ .seq us n) : H0 K (cs.map (·.2)) a vs ns b = none := by
  rcases H0_cases (K := K) (T := cs.map (·.2)) (a := a) (vs := vs) (ns := ns) b with ⟨q, _⟩ | ⟨_, rfl, _, _⟩ | ⟨_, q, _⟩
  · rw [N.tabT q] at e
    cases e
    exact absurd rfl h1
  · rw [N.scr] at e
    cases e
    exact absurd rfl (h2 _ _)
  · exact q
theorem Entry.hidK (N : Entry K mg mb s₁ cs a vs ns) {b : Addr} {o : Obj} (e : K.lookup b = some o) : H0 K (cs.map (·.2)) a vs ns b = none := by
  rcases H0_cases (K := K) (T := cs.map (·.2)) (a := a) (vs := vs) (ns := ns) b with ⟨q, _⟩ | ⟨_, rfl, q, _⟩ | ⟨_, q, _⟩
  · obtain ⟨p, hp, rfl⟩ := List.mem_map.mp q
    rw [N.ntab p hp] at e
    cases e
  · rw [q] at e
    cases e
  · exact q
theorem Entry.dict (N : Entry K mg mb s₁ cs a vs ns) {b : Addr} {m : Str → Option Value} (h : s₁.heap.Ns b m) : (hidT s₁.heap (H0 K (cs.map (·.2)) a vs ns)).Ns b m := by
  obtain ⟨o, es, ep, e, d, r⟩ := h
  exact ⟨o, es, ep, hidT_get e (N.hid e (fun z => by rw [d] at z; cases z) fun us n z => by rw [d] at z; cases z), d, r⟩
theorem Entry.base (N : Entry K mg mb s₁ cs a vs ns) : L2.Mod K mg (hidT s₁.heap (H0 K (cs.map (·.2)) a vs ns)) :=
  ⟨fun b o e => hidT_get (N.kin b o e) (N.hidK e), N.dict N.hns, ⟨mb, N.dict N.hb, N.hbb⟩, let ⟨mc, h1, h2⟩ := N.lim; ⟨mc, N.dict h1, h2⟩⟩
theorem Entry.tabB (N : Entry K mg mb s₁ cs a vs ns) : ∀ p ∈ cs, LamX.TabB (hidT s₁.heap (H0 K (cs.map (·.2)) a vs ns)) mg p.1 p.2 := fun p hp => by
  refine ⟨?_, ?_, fun z => ?_⟩
  · obtain ⟨o, us, file, tf, flags, tg, inF, text, tt, e1, r1, r2, r3, r⟩ := N.code p hp
    exact ⟨o, us, file, tf, flags, tg, inF, text, tt, hidT_get e1 (N.hid e1 (fun z => by rw [r2] at z; cases z; simp at r3) fun us n z => by rw [r2] at z; cases z), r1, r2, r3, r⟩
  · obtain ⟨bm, ob, b1, b2, b3, b4, b5, b6⟩ := N.bm
    refine ⟨bm, ob, b1, b2, fun q => ?_, fun q => ?_, hidT_get b3 (N.hid b3 (fun z => by rw [b6] at z; cases z) fun us n z => by rw [b6] at z; cases z), b4, b5, b6⟩
    · obtain ⟨o, es, ep, e, hd, _⟩ := N.hns
      rw [q, e] at b3
      cases b3
      rw [hd] at b6
      cases b6
    · rw [q, N.tab p hp] at b3
      cases b3
      cases b6
  · obtain ⟨o, es, ep, e, hd, _⟩ := N.hns
    rw [z, N.tab p hp] at e
    cases e
    cases hd
theorem Entry.hok (N : Entry K mg mb s₁ cs a vs ns) : HOk Pg w (H0 K (cs.map (·.2)) a vs ns) s₁.heap := fun b u z => by
  rcases H0_cases (K := K) (T := cs.map (·.2)) (a := a) (vs := vs) (ns := ns) b with ⟨q, e⟩ | ⟨_, rfl, _, e⟩ | ⟨_, e, _⟩
  · rw [e] at z
    cases z
    exact N.tabT q
  · rw [e] at z
    cases z
    exact ⟨N.scr, by rw [List.length_map]; exact N.fits, vs, _, vals_ints N.num, N.scr⟩
  · rw [e] at z
    cases z
theorem Entry.sq (N : Entry K mg mb s₁ cs a vs ns) : SqL K (H0 K (cs.map (·.2)) a vs ns) a (ns.map V.int) := by
  rcases H0_cases (K := K) (T := cs.map (·.2)) (a := a) (vs := vs) (ns := ns) a with ⟨q, _⟩ | ⟨_, _, _, e⟩ | ⟨_, _, q⟩
  · have e := N.tabT q
    rw [N.scr] at e
    cases e
  · exact .inl (.inr ⟨_, e⟩)
  · obtain ⟨o, ho⟩ := Option.ne_none_iff_exists'.mp (q rfl)
    have e := N.kin a o ho
    rw [N.scr] at e
    cases e
    exact .inr ⟨_, vs.toArray, _, ho, rfl, rfl, rfl, by rw [List.size_toArray, N.num.length]; exact N.fits, by simpa using vals_ints N.num⟩
theorem Entry.run (N : Entry K mg mb s₁ cs a vs ns) {fa : Addr}
    (F : ∀ (base : Heap) (H : Hp), K.In base → base.Ns mainGlobals mg → (∀ p ∈ cs, LamX.TabB base mg p.1 p.2) → Env0 Pg w K mg base callerA [] s₁ H → (∀ p ∈ cs, H p.2 = some (.tbl #[])) → SqL K H a (ns.map V.int) →
      codeAny (model Pg w) callerA (.call (.ref fa) ⟨[.ref a], []⟩) (CR (CX Pg w) [] Pg w H s₁ (fun v _ => v = .bl true) fun _ _ _ => False) s₁) (hCX : ∀ H e s', CX Pg w [] H s₁ (fun _ _ _ => False) e s' → False) :
    codeAny (model Pg w) callerA (.call (.ref fa) ⟨[.ref a], []⟩) (fun r s' => r = .ok (.ret (.bool true)) ∧ OldK s₁.heap s'.heap ∧ s'.os = s₁.os ∧ AllBare s'.gens) s₁ := by
  have hM := N.base
  have inT : ∀ p ∈ cs, H0 K (cs.map (·.2)) a vs ns p.2 = some (.tbl #[]) := fun p hp => if_pos (List.mem_map.mpr ⟨p, hp, rfl⟩)
  refine codeAny_mono (F _ _ hM.kin (N.dict N.hns) N.tabB ⟨rfl, hM, fun b o e => of_hidT e, Nat.le_of_eq (hidT_size _ _), trivial, fun b hb => absurd (show b ∈ ([] : List Addr) from hb) (by simp), N.hok, .of_eq N.gens⟩ inT N.sq) fun r s' h => ?_
  cases r with
  | error e => exact (hCX _ e s' h).elim
  | ok fl =>
    cases fl with
    | next => exact h.elim
    | brk => exact h.elim
    | cont => exact h.elim
    | ret u =>
      obtain ⟨v, H', os, bare, un, hok', r', q⟩ := h
      obtain rfl : v = .bl true := q
      obtain rfl : u = Value.bool true := r'
      have old : ∀ b o, s₁.heap.get? b = some o → b ∉ cs.map (·.2) → s'.heap.get? b = some o := fun b o e nb => by
        rcases H0_cases (K := K) (T := cs.map (·.2)) (a := a) (vs := vs) (ns := ns) b with ⟨q, _⟩ | ⟨_, _, _, z⟩ | ⟨_, z, _⟩
        · exact absurd q nb
        · have e1 := (N.hok (Pg := Pg) (w := w) b _ z).1
          rw [e] at e1
          cases e1
          exact (hok' b _ (un.frzs b _ _ z)).1
        · exact un.keep b o e z (fun z => absurd (show b ∈ ([] : List Addr) from z) (by simp)) (by simp)
      have grown : ∀ p ∈ cs, ∃ more : Array Value, s'.heap.get? p.2 = some { cls := .none, data := .fields more } := fun p hp => by
        obtain ⟨more, z⟩ := un.tbls p.2 #[] (inT p hp)
        exact ⟨_, hok' p.2 _ z⟩
      refine ⟨rfl, ⟨fun b o e => ?_, fun b o e => ?_⟩, os, bare⟩
      · by_cases hb : b ∈ cs.map (·.2)
        · obtain ⟨p, hp, rfl⟩ := List.mem_map.mp hb
          obtain ⟨more, hm⟩ := grown p hp
          rw [N.tab p hp] at e
          cases e
          exact .inr (.inl ⟨((N.code p hp).tab (N.tab p hp)).isCodeTable, rfl, #[], more, rfl, by rw [Array.empty_append]; exact hm⟩)
        · exact .inl (old b o e hb)
      · by_cases hb : b ∈ cs.map (·.2)
        · obtain ⟨p, hp, rfl⟩ := List.mem_map.mp hb
          obtain ⟨more, hm⟩ := grown p hp
          exact ⟨_, hm⟩
        · exact ⟨o, old b o e hb⟩
end
end Ice
end

section
set_option Elab.async false
set_option linter.all false
set_option maxRecDepth 100000
set_option maxHeartbeats 4000000
namespace Ice
open PySem PySem.Spec PyProof.Rows PySem.W L2
theorem map_nat_inj : ∀ {xs ys : List Char}, xs.map Char.toNat = ys.map Char.toNat → xs = ys
  | [], [], _ => rfl
  | [], _ :: _, h => by cases h
  | _ :: _, [], h => by cases h
  | x :: xs, y :: ys, h => by
    rw [List.map_cons, List.map_cons, List.cons.injEq] at h
    rw [map_nat_inj h.2, Char.toNat_inj.mp h.1]
theorem nm_inj (f g : String) (h : nm f = nm g) : f = g := by
  unfold nm at h
  rw [Str.ofString_eq_toList, Str.ofString_eq_toList] at h
  have h' : (f.toList.map Char.toNat).toArray = (g.toList.map Char.toNat).toArray := congrArg Str.cps h
  have h2 : f.toList.map Char.toNat = g.toList.map Char.toNat := by simpa using congrArg Array.toList h'
  exact String.toList_inj.mp (map_nat_inj h2)
def layOf (cA fA : String → Addr) : Lay := ⟨cA, fA, nm, nm_inj⟩
/-! ### constants of the module -/
mutual
def valC (K : PySem.W.Frag) (fA : String → Addr) : T → Value → Bool
  | .non, u => isNoneV u
  | .bl b, u => decide (u = .bool b)
  | .int i, u => (match u with
    | .int j _ => decide (i = j)
    | _ => false)
  | .str s, u => (match u with
    | .str z _ => decide (s = z)
    | _ => false)
  | .fn f, u => decide (u = .ref (fA f))
  | .wt xs, u => (match u with
    | .ref a => (match K.lookup a with
      | some ⟨c, _, .seq its _, _⟩ => decide (c = .type "tuple") && decide (its.size ≤ 1000) && valCs K fA xs its.toList
      | _ => false)
    | _ => false)
  | _, _ => false
def valCs (K : PySem.W.Frag) (fA : String → Addr) : List T → List Value → Bool
  | [], us => us.isEmpty
  | x :: xs, us => (match us with
    | u :: us => valC K fA x u && valCs K fA xs us
    | [] => false)
end
mutual
theorem valC_ok {K : PySem.W.Frag} {fA cA : String → Addr} : ∀ (t : T) (u : Value), valC K fA t u = true → ∃ v, RelV v u ∧ ∀ S : Hp, Den K (layOf cA fA) S t v
  | .non, u, h => by cases u <;> first | exact ⟨.non, rfl, fun S => rfl⟩ | cases h
  | .bl b, u, h => by
    have e : u = .bool b := by simpa [valC] using h
    subst e
    exact ⟨.bl b, rfl, fun S => rfl⟩
  | .int i, u, h => by
    cases u with
    | int j t =>
      have e : i = j := by simpa [valC] using h
      subst e
      exact ⟨.int i, ⟨t, rfl⟩, fun S => rfl⟩
    | _ => simp [valC] at h
  | .str i, u, h => by
    cases u with
    | str j t =>
      have e : i = j := by simpa [valC] using h
      subst e
      exact ⟨.str i, ⟨t, rfl⟩, fun S => rfl⟩
    | _ => simp [valC] at h
  | .fn f, u, h => by
    have e : u = .ref (fA f) := by simpa [valC] using h
    subst e
    exact ⟨.ref (fA f), rfl, fun S => rfl⟩
  | .wt xs, u, h => by
    cases u with
    | ref a =>
      simp only [valC] at h
      split at h
      · rename_i c d its n sl lk
        simp only [Bool.and_eq_true, decide_eq_true_eq] at h
        obtain ⟨⟨rfl, h2⟩, h3⟩ := h
        obtain ⟨vs, r, q⟩ := valCs_ok xs its.toList h3
        refine ⟨.ref a, rfl, fun S => ?_⟩
        simp only [Den]
        exact ⟨a, vs, rfl, .inr ⟨_, its, n, lk, rfl, rfl, by rw [sizeLine_eq]; omega, r⟩, q S⟩
      · cases h
    | _ => simp [valC] at h
  | .tup _, u, h => by simp [valC] at h
  | .lst _, u, h => by simp [valC] at h
  | .ins _ _, u, h => by simp [valC] at h
  | .dct _, u, h => by simp [valC] at h
  | .scr _, u, h => by simp [valC] at h
theorem valCs_ok {K : PySem.W.Frag} {fA cA : String → Addr} : ∀ (ts : List T) (us : List Value), valCs K fA ts us = true → ∃ vs, Vals vs us ∧ ∀ S : Hp, Dens K (layOf cA fA) S ts vs
  | [], us, h => by
    cases us with
    | nil => exact ⟨[], .nil, fun S => rfl⟩
    | cons _ _ => simp [valCs] at h
  | t :: ts, us, h => by
    cases us with
    | nil => simp [valCs] at h
    | cons u us =>
      simp only [valCs, Bool.and_eq_true] at h
      obtain ⟨v, r, q⟩ := valC_ok (cA := cA) t u h.1
      obtain ⟨vs, rs, qs⟩ := valCs_ok (cA := cA) ts us h.2
      exact ⟨v :: vs, .cons r rs, fun S => ⟨v, vs, rfl, q S, qs S⟩⟩
end
end Ice
end

section
set_option Elab.async false
set_option linter.all false
set_option maxRecDepth 100000
set_option maxHeartbeats 4000000
namespace Ice
open PySem PySem.Spec PyProof.Rows PySem.W L2
/-! ### exception classes -/
def oexB (K : PySem.W.Frag) (C : Addr) : Bool := (match K.lookup C with
  | some ⟨ct, _, .cls ⟨_, _, .ref C' :: bm, _, _, hd, _, _, _, _, del⟩, ⟨[_, _, _, _, some (.builtin s), _]⟩⟩ => decide (ct = .type "type") && decide (C' = C) && hd && !del && decide (s = "ValueError.__new__") && PySem.HandSPX.refsVE bm
  | _ => false) && decide (PySem.W.findIn K (.ref C) "__setattr__" = some (some (.builtin "object.__setattr__"))) && decide (PySem.W.subIn K (.ref C) (.type "BaseException") = some true) && decide (PySem.W.typeIn K (.ref C) = some (.type "type")) && PySem.W.keepIn K (.ref C)
theorem oexB_ok {K : PySem.W.Frag} {C : Addr} (h : oexB K C = true) : OexC K C := by
  unfold oexB at h
  simp only [Bool.and_eq_true, decide_eq_true_eq] at h
  obtain ⟨⟨⟨⟨h1, h2⟩, h3⟩, h4⟩, h5⟩ := h
  refine ⟨?_, h2, h3, h4, h5⟩
  split at h1
  · rename_i ct dd nm bs C' bm N q hd sn sub ab col del k0 k1 k2 k3 s k5 lk
    simp only [Bool.and_eq_true, decide_eq_true_eq, Bool.not_eq_true'] at h1
    obtain ⟨⟨⟨⟨⟨rfl, rfl⟩, rfl⟩, rfl⟩, rfl⟩, h6⟩ := h1
    exact ⟨nm, q, N, bs, bm, sn, sub, ab, col, dd, k0, k1, k2, k3, k5, lk, h6⟩
  · cases h1
/-- self.f = value -/
def setB (f : String) (s v : Str) (sc : Scope) : Stmt → Bool
  | .Assign [.Attribute (.Name x _) y _] (.Name z _) _ => decide (x = s) && decide (y = nm f) && decide (z = v) && nameB [s, v] sc 0 s && nameB [s, v] sc 1 v
  | _ => false
def initB (flds : List String) : FuncData → Bool
  | ⟨_, _, ⟨[], [s, v], none, [], [], none, _⟩, .stmts [st], sc, g, [], dV, _, _, _, _, _, _, b⟩ => (match flds with
    | [f] => decide (g = mainGlobals) && decide (b = builtinsNs) && scopeB [s.arg, v.arg] [s.arg, v.arg] sc && decide (s.arg = "self") && decide (v.arg = "value") && setB f s.arg v.arg sc st
    | _ => false)
  | _ => false
def iniB (K : PySem.W.Frag) (flds : List String) (C : Addr) : Bool := match PySem.W.findIn K (.ref C) "__init__" with
  | some (some (.ref fI)) => decide (PySem.W.typeIn K (.ref fI) = some (.type "function")) && (match K.lookup fI with
    | some ⟨_, _, .func fd, _⟩ => initB flds fd && codeIn K fd.code fd.qualname && (match fd.defaults with
      | .ref T => (match K.lookup T with
        | some ⟨_, _, .seq its _, _⟩ => decide (its.size = 1)
        | _ => false)
      | _ => false)
    | _ => false)
  | _ => false
section
variable {Pg : Program} {w : World} {K : PySem.W.Frag} {mg : Str → Option Value} {base : Heap} {Λ : Lay}
theorem setB_ok {X : Cx} {f : String} {s v : Str} {st : Stmt} (hN : X.N = [s, v]) (h : setB f s v X.env.scope st = true) : PS X st (tOst X.K (nm f) (tVar 0) (tVar 1)) := by
  unfold setB at h
  split at h
  · simp only [Bool.and_eq_true, decide_eq_true_eq] at h
    obtain ⟨⟨⟨⟨rfl, rfl⟩, rfl⟩, h1⟩, h2⟩ := h
    have n1 := nameB_ok h1
    have n2 := nameB_ok h2
    exact ps_ost (pe_var (by rw [hN]; exact n1.at_) n1.vis n1.hd n1.hcd) (pe_var (by rw [hN]; exact n2.at_) n2.vis n2.hd n2.hcd)
  · cases h
theorem ini_ok {f : String} {C : Addr} (hfn : Λ.fN = nm) (h : iniB K [f] C = true) : ∃ fI fd ps, PySem.W.findIn K (.ref C) "__init__" = some (some (.ref fI)) ∧ PySem.W.typeIn K (.ref fI) = some (.type "function") ∧ FnOk Pg w K mg base (CX Pg w) 1 fI fd ps (spX K Λ [f]) ∧ Binds K fd ps [] := by
  unfold iniB at h
  split at h
  · rename_i fI hfi
    simp only [Bool.and_eq_true, decide_eq_true_eq] at h
    obtain ⟨h1, h⟩ := h
    split at h
    · rename_i oc od fd osl lk
      simp only [Bool.and_eq_true] at h
      obtain ⟨⟨h2, h3⟩, h4⟩ := h
      unfold initB at h2
      split at h2
      · rename_i name qual s v dfl st sc g dV kV doc pm an cdv ct b
        simp only [Bool.and_eq_true, decide_eq_true_eq] at h2
        obtain ⟨⟨⟨⟨⟨rfl, rfl⟩, hS⟩, hs⟩, hv⟩, hset⟩ := h2
        have S := scopeB_ok hS
        refine ⟨fI, _, [s.arg, v.arg], hfi, h1, fn_of (N := [s.arg, v.arg]) lk h3 S (fun vs H Q E h => ?_) (fun A outer s0 H vs Q E hr hsp => ?_), ?_⟩
        · obtain ⟨a, C, v, rfl, _⟩ := h
          rfl
        · refine ⟨_, pss_one (setB_ok (X := cxOf (CX Pg w) Pg w K mg base [s.arg, v.arg] qual sc fI cdv A outer s0 H E) rfl hset), ?_⟩
          obtain ⟨a, C, v, rfl, q1, q2, q3, q4⟩ := hsp
          rw [hfn] at q2 q4
          exact ⟨v, rfl, .ref a, rfl, a, C, rfl, q1, q2, .inl ⟨q3, q4⟩⟩
        · split at h4
          · rename_i T hT
            split at h4
            · rename_i c d its n sl lT
              have hsz := of_decide_eq_true h4
              intro s0 us KX hl
              match us, hl with
              | [x, y], _ =>
                have hT' : dV = .ref T := hT
                subst hT'
                obtain ⟨sa, san, sp⟩ := s
                obtain ⟨va, van, vp⟩ := v
                have e1 : sa = "self" := hs
                have e2 : va = "value" := hv
                subst e1 e2
                match its, hsz with
                | ⟨[z]⟩, _ =>
                  exact BindsTo.of_looks fun M => looks_items KX lT rfl (.of_pure (by rfl))
            · cases h4
          · cases h4
      · cases h2
    · cases h
  · cases h
end
end Ice
end

section
set_option Elab.async false
set_option linter.all false
set_option maxRecDepth 100000
set_option maxHeartbeats 4000000
namespace Ice
open PySem PySem.Spec PyProof.Rows PySem.W L2
/-! ### what a program is, for the checks -/
structure Src0 where
  fns : List (String × Fn)
  cons : List (String × T)
  clss : List (String × ClsR)
  excs : List (String × ExcR)
  lams : List (String × LamR)
  fAs : List (String × Addr)
  cAs : List (String × Addr)
  cs : List (Addr × Addr)
  TB : List (Addr × Str)
def Src0.tab (S : Src0) : Tab := ⟨fun x => S.fns.lookup x, fun x => S.cons.lookup x, fun x => S.clss.lookup x, fun x => S.excs.lookup x, fun x => S.lams.lookup x⟩
def Src0.fA (S : Src0) (x : String) : Addr := (S.fAs.lookup x).getD 0
def Src0.cA (S : Src0) (x : String) : Addr := (S.cAs.lookup x).getD 0
def Src0.lay (S : Src0) : Lay := layOf S.cA S.fA
theorem mem_of_look {β α : Type} [BEq β] [LawfulBEq β] : ∀ {l : List (β × α)} {x : β} {a : α}, l.lookup x = some a → (x, a) ∈ l
  | [], _, _, h => by cases h
  | (y, b) :: l, x, a, h => by
    rw [List.lookup_cons] at h
    by_cases e : x = y
    · subst e
      rw [beq_self_eq_true] at h
      cases h
      exact List.mem_cons_self
    · rw [beq_eq_false_iff_ne.mpr e] at h
      exact List.mem_cons_of_mem _ (mem_of_look h)
def glK (K : PySem.W.Frag) (x : String) (a : Addr) : Bool := decide (nsIn K mainGlobals (nm x) = some (some (.ref a)))
def Src0.fnB1 (S : Src0) (K : PySem.W.Frag) (p : String × Fn) : Bool := (fnB K S.fA nm S.TB S.cs S.tab false p.1 p.2 || hFnB K S.fA nm S.tab p.1 p.2) && PySem.W.keepIn K (.ref (S.fA p.1)) && (dotted p.1 || glK K p.1 (S.fA p.1))
def Src0.conB1 (S : Src0) (K : PySem.W.Frag) (p : String × T) : Bool := match nsIn K mainGlobals (nm p.1) with
  | some (some u) => valC K S.fA p.2 u
  | _ => false
def bltB (K : PySem.W.Frag) (x : Str) : Bool := (match nsIn K mainGlobals x with
  | some none => true
  | _ => false)
def Src0.excB1 (S : Src0) (K : PySem.W.Frag) (p : String × ExcR) : Bool := oexB K (S.cA p.1) && iniB K p.2.flds (S.cA p.1) && p.2.flds.all (fun f => decide (PySem.W.findIn K (.ref (S.cA p.1)) (nm f) = some none)) && glK K p.1 (S.cA p.1) && decide (p.2.flds.length = 1)
/-- a helper with one parameter and the name e -/
def lamFd (K : PySem.W.Frag) (hs : List Hrow) (x : String) : FuncData → Bool
  | ⟨n, q, ⟨[], [p], none, [], [], none, _⟩, .stmts body, sc, g, [], dV, _, _, _, _, cdv, _, b⟩ =>
    decide (n = nm x) && decide (q = nm x) && decide (g = mainGlobals) && decide (b = builtinsNs) && codeIn K cdv (nm x) && isNoneV dV && scopeB [p.arg, "e"] [p.arg] sc && nameB [p.arg, "e"] sc 0 p.arg && nameB [p.arg, "e"] sc 1 "e" && decide (sc.names.lookup ("e" : Str) = some .local) && refB nm sc p.arg "e" hs body
  | _ => false
def Src0.lamB1 (S : Src0) (K : PySem.W.Frag) (p : String × LamR) : Bool := match p.2 with
  | .refused hs => glK K p.1 (S.fA p.1) && PySem.W.keepIn K (.ref (S.fA p.1)) && (match K.lookup (S.fA p.1) with
      | some ⟨_, _, .func fd, _⟩ => lamFd K hs p.1 fd
      | _ => false) && hs.all (fun h => glK K h.1 (S.cA h.1)) &&
      S.excs.all (fun e => xfB K (S.cA e.1) && hs.all fun h => decide (PySem.W.exmOne K (.ref (S.cA e.1)) (.ref (S.cA h.1)) = some (e.2.sup.contains h.1)) && h.2.2.all fun f => decide (PySem.W.findIn K (.ref (S.cA e.1)) (nm f) = some none))
  | _ => true
section
variable {Pg : Program} {w : World} {K : PySem.W.Frag} {mg : Str → Option Value} {base : Heap} {S : Src0}
theorem glK_ok {x : String} {a : Addr} (X : K.In base) (G : base.Ns mainGlobals mg) (h : glK K x a = true) : mg (nm x) = some (.ref a) := mg_of X G (of_decide_eq_true h)
theorem lamB_ok {Γ : Gm} {x : String} {hs : List Hrow} (X : K.In base) (G : base.Ns mainGlobals mg) (eL : Γ.Λ = S.lay) (eP : Γ.P = S.tab) (h : S.lamB1 K (x, .refused hs) = true) : LamL K mg Γ x hs := by
  obtain ⟨Λ, TB, P, cf⟩ := Γ
  obtain rfl : Λ = S.lay := eL
  obtain rfl : P = S.tab := eP
  unfold Src0.lamB1 at h
  simp only [Bool.and_eq_true] at h
  obtain ⟨⟨⟨⟨h1, h2⟩, h3⟩, h4⟩, h5⟩ := h
  have h5' := fun c r (hc : S.excs.lookup c = some r) => List.all_eq_true.mp h5 (c, r) (mem_of_look hc)
  simp only [Bool.and_eq_true, List.all_eq_true, decide_eq_true_eq] at h5'
  refine ⟨glK_ok X G h1, h2, ?_, fun h hh => glK_ok X G (List.all_eq_true.mp h4 h hh), fun h hh c r hc => ((h5' c r hc).2 h hh).1, fun c r hc => xfB_ok (h5' c r hc).1, fun h hh f hf c r hc => ((h5' c r hc).2 h hh).2 f hf⟩
  split at h3
  · rename_i oc od fd osl lk
    unfold lamFd at h3
    split at h3
    · rename_i n q p dfl body sc g dV kV doc pm an cdv ct b
      simp only [Bool.and_eq_true, decide_eq_true_eq] at h3
      obtain ⟨⟨⟨⟨⟨⟨⟨⟨⟨⟨rfl, rfl⟩, rfl⟩, rfl⟩, a1⟩, a2⟩, a3⟩, a4⟩, a5⟩, a6⟩, a7⟩ := h3
      have : dV = .none := by cases dV <;> first | rfl | cases a2
      subst this
      refine ⟨_, body, sc, .none, kV, doc, pm, cdv, ct, oc, an, od, osl, p.arg, "e", lk, a1, .all fun us hl => ?_, scopeB_ok a3, nameB_ok a4, a5, a6, a7⟩
      exact bind_pos (args := [p]) (by simp) hl
    · cases h3
  · cases h3
/-- the tables, as they stand -/
def Src0.tabB (S : Src0) (K : PySem.W.Frag) : Bool := S.cs.all (fun p => codeHdIn K p.1 p.2 && decide ((K.lookup p.2).isNone = true)) && S.TB.all (fun p => decide (S.TB.lookup p.1 = some p.2) && S.cs.any fun q => decide (q.2 = p.1))
/-- everything but the classes of instances -/
def Src0.okB (S : Src0) (K : PySem.W.Frag) : Bool := S.fns.all (S.fnB1 K) && S.cons.all (S.conB1 K) && bltNames.all (bltB K) && S.excs.all (S.excB1 K) && S.lams.all (S.lamB1 K) && S.tabB K
structure ClsOk (K : PySem.W.Frag) (S : Src0) : Prop where
  cls : ∃ cs : List String, KitOk K S.lay cs ∧ ∀ c C, S.tab.cls c = some C → c ∈ cs
  clg : ∀ c C, S.tab.cls c = some C → nsIn K mainGlobals (nm c) = some (some (.ref (S.cA c)))
  fld : ∀ c C, S.tab.cls c = some C → ∀ f ∈ C.flds, NoAttr K (S.cA c) (nm f)
  mth : ∀ c C, S.tab.cls c = some C → ∀ m ∈ C.meths, Meth K (S.cA c) (nm m) (S.fA (c ++ "." ++ m))
  mks : ∀ c C, S.tab.cls c = some C → Mk K (S.cA c) (S.fA C.init)
theorem stat_ok (X : K.In base) (G : base.Ns mainGlobals mg) (h : S.okB K = true) (C : ClsOk K S) (T : ∀ p ∈ S.cs, LamX.TabB base mg p.1 p.2) (hcs : ∀ p ∈ S.cs, S.cs.lookup p.1 = some p.2) : Stat Pg w K mg base S.lay S.TB S.cs S.tab := by
  unfold Src0.okB at h
  simp only [Bool.and_eq_true] at h
  obtain ⟨⟨⟨⟨⟨h1, h2⟩, h3⟩, h4⟩, h5⟩, h6⟩ := h
  have f1 : ∀ f F, S.fns.lookup f = some F → S.fnB1 K (f, F) = true := fun f F hf => List.all_eq_true.mp h1 _ (mem_of_look hf)
  simp only [Src0.fnB1, Bool.and_eq_true, Bool.or_eq_true] at f1
  refine ⟨fun f F hf => ⟨(f1 f F hf).1.1.elim (fun q => .inl (fnB_ok q)) (fun q => .inr (hFnB_ok q)), (f1 f F hf).1.2⟩, fun f hf hd => ?_, fun x v hx => ?_, fun x hx => ?_, C.cls, fun c D hc => mg_of X G (C.clg c D hc), C.fld, C.mth, C.mks, fun c r hc => ?_, fun x hs hx => ?_, ?_, ?_⟩
  · obtain ⟨F, hF⟩ := Option.isSome_iff_exists.mp hf
    rcases (f1 f F hF).2 with q | q
    · rw [hd] at q; cases q
    · exact glK_ok X G q
  · have q := List.all_eq_true.mp h2 _ (mem_of_look hx)
    unfold Src0.conB1 at q
    split at q
    · rename_i u hu
      obtain ⟨v', r, d⟩ := valC_ok (cA := S.cA) v u q
      exact ⟨u, v', mg_of X G hu, r, d⟩
    · cases q
  · have q := List.all_eq_true.mp h3 x hx
    unfold bltB at q
    split at q
    · rename_i e
      exact mg_none_of X G e
    · cases q
  · have q := List.all_eq_true.mp h4 _ (mem_of_look hc)
    unfold Src0.excB1 at q
    simp only [Bool.and_eq_true, List.all_eq_true, decide_eq_true_eq] at q
    obtain ⟨⟨⟨⟨q1, q2⟩, q3⟩, q4⟩, q5⟩ := q
    obtain ⟨f, hf⟩ := List.length_eq_one_iff.mp q5
    rw [hf] at q2
    exact ⟨oexB_ok q1, by rw [hf]; exact ini_ok rfl q2, q3, glK_ok X G q4⟩
  · exact lamB_ok X G rfl rfl (List.all_eq_true.mp h5 _ (mem_of_look hx))
  · exact fun c Pt hc => T _ (mem_of_look hc)
  · unfold Src0.tabB at h6
    simp only [Bool.and_eq_true, List.all_eq_true, decide_eq_true_eq] at h6
    exact fun p q hp => ⟨mem_of_look hp, fun r hr e => by
      have z := (h6.2 r hr).1
      rw [e, hp] at z
      exact (Option.some.inj z).symm⟩
end
end Ice
end

section
set_option Elab.async false
set_option linter.all false
set_option maxRecDepth 100000
set_option maxHeartbeats 4000000
/-! Ice: classes of instances, by a check. -/
namespace Ice
open PySem PySem.Spec PyProof.Rows PySem.W L2
def findB (K : PySem.W.Frag) (C : Addr) (f : Str) (u : Option Value) : Bool := decide (PySem.W.findIn K (.ref C) f = some u)
def clsB1 (K : PySem.W.Frag) (S : Src0) (p : String × ClsR) : Bool :=
  PySem.W.plainGet K (S.cA p.1) Str.empty && (PySem.W.hasDictIn K (S.cA p.1) && (PySem.W.plainOver K (S.cA p.1) && (findB K (S.cA p.1) "__setattr__" (some (.builtin "object.__setattr__")) &&
  (findB K (S.cA p.1) "__class__" (some (.builtin "object.__class__")) && (decide (PySem.W.specialIn K (.builtin "object.__class__") "__get__" = some (some (.builtin "getset_descriptor.__get__"))) &&
  (decide (PySem.W.takesIn K (.builtin "object.__class__") = some true) && (decide (PySem.W.mroIn K (S.cA p.1) (.type "object") = some true) && (decide (nsIn K mainGlobals (nm p.1) = some (some (.ref (S.cA p.1)))) &&
  (p.2.flds.all (fun f => findB K (S.cA p.1) (nm f) none) && (p.2.meths.all (fun m => findB K (S.cA p.1) (nm m) (some (.ref (S.fA (p.1 ++ "." ++ m)))) && (PySem.W.isFn K (.ref (S.fA (p.1 ++ "." ++ m))) && PySem.W.keepIn K (.ref (S.fA (p.1 ++ "." ++ m))))) &&
  (PySem.W.makesIn K (S.cA p.1) && (findB K (S.cA p.1) "__init__" (some (.ref (S.fA p.2.init))) && (PySem.W.isFn K (.ref (S.fA p.2.init)) && PySem.W.keepIn K (.ref (S.cA p.1)))))))))))))))
def tagsOf (cs : List String) : List Tag := [.non, .int, .bool, .str, .list, .tuple, .dict] ++ cs.map .cls
def tysOf (cs : List String) : List Ty := [.int, .bool, .str, .list, .tuple, .dict] ++ cs.map .cls
def kitB (K : PySem.W.Frag) (Λ : Lay) (cs : List String) : Bool := (tagsOf cs).all fun g => (tysOf cs).all fun y => decide (PySem.W.kitOne K (tagVal Λ g) (tyVal Λ y) = some (tagIs g y))
def Src0.clsB (S : Src0) (K : PySem.W.Frag) : Bool := S.clss.all (clsB1 K S) && kitB K S.lay (S.clss.map (·.1))
theorem kitB_ok {K : PySem.W.Frag} {Λ : Lay} {cs : List String} (h : kitB K Λ cs = true) (g : Tag) (y : Ty) (h1 : ∀ c, g = .cls c → c ∈ cs) (h2 : ∀ c, y = .cls c → c ∈ cs) : PySem.W.kitOne K (tagVal Λ g) (tyVal Λ y) = some (tagIs g y) := by
  have hg : g ∈ tagsOf cs := by
    cases g with
    | cls c => exact List.mem_append_right _ (List.mem_map_of_mem (h1 c rfl))
    | _ => exact List.mem_append_left _ (by simp)
  have hy : y ∈ tysOf cs := by
    cases y with
    | cls c => exact List.mem_append_right _ (List.mem_map_of_mem (h2 c rfl))
    | _ => exact List.mem_append_left _ (by simp)
  exact of_decide_eq_true (List.all_eq_true.mp (List.all_eq_true.mp h g hg) y hy)
theorem clsB_ok {K : PySem.W.Frag} {S : Src0} (h : S.clsB K = true) : ClsOk K S := by
  unfold Src0.clsB at h
  rw [Bool.and_eq_true] at h
  obtain ⟨h, hk⟩ := h
  have q : ∀ c C, S.tab.cls c = some C → clsB1 K S (c, C) = true := fun c C hc => List.all_eq_true.mp h _ (mem_of_look hc)
  unfold clsB1 at q
  simp only [Bool.and_eq_true, decide_eq_true_eq, findB, List.all_eq_true] at q
  refine ⟨⟨S.clss.map (·.1), ⟨fun c hc => ?_, kitB_ok hk⟩, fun c C hc => List.mem_map_of_mem (f := (·.1)) (mem_of_look hc)⟩, fun c C hc => ?_, fun c C hc => ?_, fun c C hc m hm => ?_, fun c C hc => ?_⟩
  · obtain ⟨p, hp, rfl⟩ := List.mem_map.mp hc
    have z := List.all_eq_true.mp h p hp
    unfold clsB1 at z
    simp only [Bool.and_eq_true, decide_eq_true_eq, findB] at z
    exact ⟨⟨z.1, z.2.1, z.2.2.1, z.2.2.2.1⟩, z.2.2.2.2.1, z.2.2.2.2.2.1, z.2.2.2.2.2.2.1, z.2.2.2.2.2.2.2.1⟩
  · exact (q c C hc).2.2.2.2.2.2.2.2.1
  · exact (q c C hc).2.2.2.2.2.2.2.2.2.1
  · have z := (q c C hc).2.2.2.2.2.2.2.2.2.2.1 m hm
    exact ⟨z.1, z.2.1, z.2.2⟩
  · have z := (q c C hc).2.2.2.2.2.2.2.2.2.2.2
    exact ⟨z.1, z.2.1, z.2.2.1, z.2.2.2⟩
end Ice
end

section
set_option Elab.async false
set_option linter.all false
set_option maxRecDepth 100000
set_option maxHeartbeats 4000000
namespace Ice
open PySem PySem.Spec PyProof.Rows PySem.W L2
theorem tabs_of {TB : List (Addr × Str)} {cs : List (Addr × Addr)} {H : Hp} (h : ∀ p ∈ TB, ∃ q ∈ cs, q.2 = p.1) (inT : ∀ p ∈ cs, H p.2 = some (.tbl #[])) : LamX.Tabs TB H := fun p hp => by
  obtain ⟨q, hq, e⟩ := h p hp
  exact ⟨#[], by rw [← e]; exact inT q hq, trivial, fun pos cv z => by cases z⟩
/-- the law's entry: the script is read where it lies -/
theorem spF_law {w : World} {K : PySem.W.Frag} {Λ : Lay} {TB : List (Addr × Str)} {cs : List (Addr × Addr)} {P : Tab} {M : Nat} {F : Fn} {H : Hp} {a : Addr} {ns : List Int} {st : Store} (hTB : ∀ p ∈ TB, ∃ q ∈ cs, q.2 = p.1) (inT : ∀ p ∈ cs, H p.2 = some (.tbl #[])) (sq : SqL K H a (ns.map V.int))
    (hnp : F.np = 1) (hrun : runF P M F [.t (.scr ns)] [] = .ok (.t (.bl true)) st) : spF K Λ TB P M F [.ref a] H (fun v _ => v = .bl true) fun _ _ _ => False := by
  have key : ∃ S : Hp, (∀ b o, S b = some o → H b = some o) ∧ (∀ b ps, S b ≠ some (.tbl ps)) ∧ SqL K S a (ns.map V.int) := by
    rcases sq with (h | ⟨o, h⟩) | h
    · refine ⟨fun b => if b = a then some (.lst (ns.map V.int)) else none, fun b o e => ?_, fun b ps e => ?_, .inl (.inl (if_pos rfl))⟩
      · by_cases z : b = a
        · have e' := (if_pos z).symm.trans e
          rw [z, h, ← e']
        · cases (if_neg z).symm.trans e
      · by_cases z : b = a
        · cases (if_pos z).symm.trans e
        · cases (if_neg z).symm.trans e
    · refine ⟨fun b => if b = a then some (.frz o (.lst (ns.map V.int))) else none, fun b o e => ?_, fun b ps e => ?_, .inl (.inr ⟨o, if_pos rfl⟩)⟩
      · by_cases z : b = a
        · have e' := (if_pos z).symm.trans e
          rw [z, h, ← e']
        · cases (if_neg z).symm.trans e
      · by_cases z : b = a
        · cases (if_pos z).symm.trans e
        · cases (if_neg z).symm.trans e
    · exact ⟨(fun _ => none), (fun _ _ e => nomatch e), (fun _ _ e => nomatch e), Or.inr h⟩
  obtain ⟨S, h1, h2, h3⟩ := key
  refine ⟨⟨S, fun _ => 0, []⟩, [.t (.scr ns)], ⟨h1, h2, fun k o e => by simp at e, fun j k hj => ?_, tabs_of hTB inT⟩, ⟨.ref a, [], rfl, ?_, rfl⟩, hnp.symm, ?_⟩
  · obtain ⟨o, e, _⟩ := hj
    simp at e
  · show Den K Λ S (.scr ns) (.ref a)
    simp only [Den]
    exact ⟨a, rfl, h3⟩
  · show Wp K Λ TB (runF P M F [.t (.scr ns)] []) ⟨S, fun _ => 0, []⟩ H (DenD K Λ) _ _
    rw [hrun]
    intro c' H' v _ _ hd
    exact hd
/-- THE END: a law by its plain law -/
theorem walk_ice {l : PySem.W.OpenLaw} {n M : Nat} {q : Program} {loose : List Str} {XP : (Str → Option Value) → Heap → Prop} {YP : World → Heap → Prop} {d : DefRec} {K : Params → PySem.W.Frag} {S : Src0} {F : Fn} {fa : Addr}
    (hn : l.most = some n) (hn2 : n ≤ sizeLine) (hdf : d.params.defaults = []) (hr : Room (lev M + 5) callerA) (hg : callerA.guards = some []) (hY : ∀ (w : World) (h : Heap), YP w h → (K w.params).In h) (hT : ∀ (w : World) (h : Heap), YP w h → ∀ p ∈ S.cs, h.get? p.2 = some tabO)
    (hfa : ∀ p : Params, nsIn (K p) mainGlobals d.name = some (some (.ref fa))) (hS : ∀ p : Params, S.okB (K p) = true) (hC : ∀ p : Params, ClsOk (K p) S) (hF : ∀ p : Params, FnS (K p) nm S.TB S.cs S.tab true fa F) (hcs : ∀ p ∈ S.cs, S.cs.lookup p.1 = some p.2)
    (hnp : F.np = 1) (plain : ∀ ns : List Int, ns.length ≤ n → (∀ z ∈ ns, Builtin.Int.intBits z ≤ 1048576) → ∃ st, runF S.tab M F [.t (.scr ns)] [] = .ok (.t (.bl true)) st) :
    PySem.W.WalkO q loose XP YP l.row.toRowW d [] (fun f vs => PySem.call f vs) := by
  refine Att.attach_callB hn hdf fun w s₀ s₁ mg mb f o pm cd doc a vs ns G Y ho hd hcd hmg hobj hints hlen hbits hgens => ?_
  have KX := hY w _ Y
  have e : f = fa := by
    have z := PySem.W.mg_of KX G.T.g (hfa w.params)
    rw [hmg] at z
    cases z
    rfl
  subst e
  have h6 := hS w.params
  unfold Src0.okB at h6
  simp only [Bool.and_eq_true] at h6
  replace h6 := h6.2
  unfold Src0.tabB at h6
  simp only [Bool.and_eq_true, List.all_eq_true, decide_eq_true_eq, List.any_eq_true] at h6
  have N : Entry (K w.params) mg mb s₁ S.cs a vs ns := ⟨KX, G.T.g, G.T.b, G.T.builtins, G.T.nolimit, hgens, hT w _ Y, fun p hp => Option.isNone_iff_eq_none.mp (h6.1 p hp).2, fun p hp => codeHd_of_K KX (h6.1 p hp).1, G.T.bmain, hobj, hints, Nat.le_trans hlen hn2⟩
  obtain ⟨st, hst⟩ := plain ns hlen hbits
  refine N.run (fun base H hK hN hT e0 inT sq => ?_) fun H e s' z => ?_
  · have St := stat_ok (Pg := l.prog) (w := w) hK hN (hS w.params) (hC w.params) hT hcs
    exact fn_run (Λ := S.lay) (n := M) (hF w.params) (St.l1 M) (St.l2 M) St.tab (fun _ => hg) hr e0 (vs := [.ref a]) (.cons rfl .nil) (spF_law (w := w) (fun p hp => (h6.2 p hp).2) inT sq hnp hst)
  · obtain ⟨_, _, _, _, _, _, _, _, _, _, _, _, z⟩ := z
    exact z.elim
end Ice
end

section
set_option Elab.async false
set_option linter.all false
set_option maxRecDepth 100000
set_option maxHeartbeats 4000000
namespace Ice
open PySem
/-! ### what a run gives -/
def Ok {α : Type} (r : R α) (Q : α → Store → Prop) : Prop := match r with
  | .ok a st => Q a st
  | _ => False
def En (w : Fw) (N : Env → Store → Prop) (T : D → Store → Prop) : Prop := match w with
  | .nx ρ st => N ρ st
  | .rt d st => T d st
  | _ => False
section
variable {α β : Type} {r : R α} {Q Q' : α → Store → Prop} {N N' : Env → Store → Prop} {T T' : D → Store → Prop} {w : Fw} {st : Store} {ρ : Env}
@[simp] theorem Ok_ok {a : α} : Ok (.ok a st) Q = Q a st := rfl
@[simp] theorem Ok_no : Ok (.no : R α) Q = False := rfl
@[simp] theorem Ok_ex {e : Exn} : Ok (.ex e st : R α) Q = False := rfl
@[simp] theorem Ok_bind {f : α → Store → R β} {Q : β → Store → Prop} : Ok (r.bind f) Q = Ok r fun a st => Ok (f a st) Q := by cases r <;> rfl
theorem Ok.mono (h : Ok r Q) (m : ∀ a st, Q a st → Q' a st) : Ok r Q' := by
  cases r with
  | ok a st => exact m a st h
  | ex e st => exact h
  | no => exact h
theorem Ok.eq (h : Ok r Q) : ∃ a st, r = .ok a st ∧ Q a st := by
  cases r with
  | ok a st => exact ⟨a, st, rfl, h⟩
  | ex e st => exact h.elim
  | no => exact h.elim
@[simp] theorem En_nx : En (.nx ρ st) N T = N ρ st := rfl
@[simp] theorem En_rt {d : D} : En (.rt d st) N T = T d st := rfl
@[simp] theorem En_no : En .no N T = False := rfl
@[simp] theorem En_ex {e : Exn} : En (.ex e st) N T = False := rfl
@[simp] theorem En_of {f : α → Store → Fw} : En (Fw.of r f) N T = Ok r fun a st => En (f a st) N T := by cases r <;> rfl
@[simp] theorem En_nxt {f : Env → Store → Fw} : En (w.nxt f) N T = En w (fun ρ st => En (f ρ st) N T) T := by cases w <;> rfl
@[simp] theorem Ok_endF {Q : D → Store → Prop} : Ok (endF w) Q = En w (fun _ st => Q (.t .non) st) Q := by cases w <;> rfl
theorem En.mono (h : En w N T) (m : ∀ ρ st, N ρ st → N' ρ st) (t : ∀ d st, T d st → T' d st) : En w N' T' := by
  cases w with
  | nx ρ st => exact m ρ st h
  | rt d st => exact t d st h
  | bk ρ st => exact h
  | ex e st => exact h
  | no => exact h
@[simp] theorem Ok_opt {o : Option α} : Ok (ofOpt st o) Q = ∃ a, o = some a ∧ Q a st := by
  cases o with
  | none => simp [ofOpt]
  | some a => simp [ofOpt]
end
@[simp] theorem endF_rt {d : D} {st : Store} : endF (.rt d st) = .ok d st := rfl
@[simp] theorem endF_nx {ρ : Env} {st : Store} : endF (.nx ρ st) = .ok (.t .non) st := rfl
@[simp] theorem endF_ex {e : Exn} {st : Store} : endF (.ex e st) = .ex e st := rfl
/-! ### values -/
abbrev I (i : Int) : D := .t (.int i)
abbrev B (b : Bool) : D := .t (.bl b)
section
variable {st : Store} {i j : Int} {P : Tab} {cf : CallF} {ρ : Env}
@[simp] theorem bin_add : binD st .add (.t (.int i)) (.t (.int j)) = some (.int (i + j)) := rfl
@[simp] theorem bin_sub : binD st .sub (.t (.int i)) (.t (.int j)) = some (.int (i - j)) := rfl
@[simp] theorem bin_mul : binD st .mul (.t (.int i)) (.t (.int j)) = if i.natAbs < 18446744073709551616 ∨ j.natAbs < 18446744073709551616 then some (.int (i * j)) else none := rfl
@[simp] theorem bin_fdiv : binD st .fdiv (.t (.int i)) (.t (.int j)) = if 0 < j ∧ j < 1073741824 then some (.int (i / j)) else none := rfl
@[simp] theorem bin_mod : binD st .mod (.t (.int i)) (.t (.int j)) = if 0 < j then some (.int (i % j)) else none := rfl
@[simp] theorem bin_pow : binD st .pow (.t (.int i)) (.t (.int j)) = if 0 ≤ j ∧ j ≤ 1000 ∧ i.natAbs < 18446744073709551616 then some (.int (i ^ j.toNat)) else none := rfl
@[simp] theorem cmp_lt : cmpD st .lt (.t (.int i)) (.t (.int j)) = some (decide (i < j)) := rfl
@[simp] theorem cmp_le : cmpD st .le (.t (.int i)) (.t (.int j)) = some (decide (i ≤ j)) := rfl
@[simp] theorem cmp_gt : cmpD st .gt (.t (.int i)) (.t (.int j)) = some (decide (j < i)) := rfl
@[simp] theorem cmp_ge : cmpD st .ge (.t (.int i)) (.t (.int j)) = some (decide (j ≤ i)) := rfl
theorem beq_dec {a b : Int} : (a == b) = decide (a = b) := rfl
@[simp] theorem cmp_eq : cmpD st .eq (.t (.int i)) (.t (.int j)) = some (decide (i = j)) := rfl
@[simp] theorem cmp_ne : cmpD st .ne (.t (.int i)) (.t (.int j)) = some (!decide (i = j)) := rfl
@[simp] theorem cmp_isN {x : T} (h : ∀ xs, x ≠ .wt xs) : cmpD st .is_ (.t x) (.t .non) = some x.isNon := by cases x <;> first | rfl | exact absurd rfl (h _)
@[simp] theorem truth_bl {b : Bool} : truth st (.t (.bl b)) = some b := rfl
@[simp] theorem truth_int : truth st (.t (.int i)) = some (i != 0) := rfl
end
/-! ### loops -/
section
variable {tg : Tg} {body : Env → Store → Fw} {N : Env → Store → Prop} {T : D → Store → Prop} {ρ : Env} {st : Store}
/-- a loop whose turns are known: v i the value at turn i -/
theorem En_for {it : It} {n : Nat} {v : Nat → D} (J : Nat → Env → Store → Prop) (hg : ∀ i ρ st, J i ρ st → getI st i it = some (if i < n then some (v i) else none))
    (hs : ∀ i, i < n → ∀ ρ st, J i ρ st → ∃ ρ', bindT tg (v i) ρ = some ρ' ∧ En (body ρ' st) (J (i + 1)) T) (hn : ∀ ρ st, J n ρ st → N ρ st) :
    ∀ (k i : Nat) (ρ : Env) (st : Store), i + k = n → J i ρ st → En (forL it tg body k i ρ st) N T
  | k, i, ρ, st, hk, h => by
    unfold forL
    rw [hg i ρ st h]
    by_cases hi : i < n
    · rw [if_pos hi]
      obtain ⟨k, rfl⟩ : ∃ k', k = k' + 1 := ⟨k - 1, by omega⟩
      obtain ⟨ρ', e, h'⟩ := hs i hi ρ st h
      simp only [e]
      cases hb : body ρ' st with
      | nx ρ2 st2 => rw [hb] at h'; exact En_for J hg hs hn k (i + 1) ρ2 st2 (by omega) h'
      | rt d st2 => rw [hb] at h'; exact h'
      | bk ρ2 st2 => rw [hb] at h'; exact h'.elim
      | ex e st2 => rw [hb] at h'; exact h'.elim
      | no => rw [hb] at h'; exact h'.elim
    · rw [if_neg hi]
      exact hn ρ st (by have : i = n := by omega
                        rw [← this]; exact h)
theorem getI_rng {lo s : Int} {n i : Nat} : getI st i (.rng lo s n) = some (if i < n then some (.t (.int (lo + (i : Int) * s))) else none) := rfl
theorem En_for_rng {lo s : Int} {n : Nat} (J : Nat → Env → Store → Prop) (h0 : J 0 ρ st) (hs : ∀ i, i < n → ∀ ρ st, J i ρ st → ∃ ρ', bindT tg (.t (.int (lo + (i : Int) * s))) ρ = some ρ' ∧ En (body ρ' st) (J (i + 1)) T) (hn : ∀ ρ st, J n ρ st → N ρ st) :
    En (forL (.rng lo s n) tg body n 0 ρ st) N T := En_for (v := fun i => .t (.int (lo + (i : Int) * s))) J (fun i ρ st _ => getI_rng) hs hn n 0 ρ st (Nat.zero_add n) h0
theorem En_for_xs {l : List D} (J : Nat → Env → Store → Prop) (h0 : J 0 ρ st) (hs : ∀ i (hi : i < l.length), ∀ ρ st, J i ρ st → ∃ ρ', bindT tg l[i] ρ = some ρ' ∧ En (body ρ' st) (J (i + 1)) T) (hn : ∀ ρ st, J l.length ρ st → N ρ st) :
    En (forL (.xs l) tg body l.length 0 ρ st) N T := by
  refine En_for (it := .xs l) (n := l.length) (v := fun i => l.getD i (.t .non)) J (fun i ρ st _ => ?_) (fun i hi ρ st h => ?_) hn l.length 0 ρ st (Nat.zero_add _) h0
  · show some l[i]? = _
    by_cases hi : i < l.length
    · rw [if_pos hi, List.getElem?_eq_getElem hi, List.getD_eq_getElem?_getD, List.getElem?_eq_getElem hi]
      rfl
    · rw [if_neg hi, List.getElem?_eq_none (by omega)]
  · have e : l.getD i (.t .non) = l[i] := by rw [List.getD_eq_getElem?_getD, List.getElem?_eq_getElem hi]; rfl
    simp only [e]
    exact hs i hi ρ st h
theorem En_while {c : Env → Store → R D} {b : Env → Store → Fw} (J : Nat → Env → Store → Prop)
    (hs : ∀ m ρ st, J m ρ st → Ok (c ρ st) fun x st1 => (truth st1 x = some true ∧ En (b ρ st1) (fun ρ' st' => ∃ m', m' < m ∧ J m' ρ' st') T) ∨ (truth st1 x = some false ∧ N ρ st1)) :
    ∀ (f m : Nat) (ρ : Env) (st : Store), m < f → J m ρ st → En (whileL c b f ρ st) N T
  | 0, m, ρ, st, hf, h => by omega
  | f + 1, m, ρ, st, hf, h => by
    unfold whileL
    rw [En_of]
    refine (hs m ρ st h).mono fun x st1 q => ?_
    rcases q with ⟨e, q⟩ | ⟨e, q⟩
    · rw [e]
      cases hb : b ρ st1 with
      | nx ρ2 st2 =>
        rw [hb] at q
        obtain ⟨m', hm, q⟩ := q
        exact En_while J hs f m' ρ2 st2 (by omega) q
      | rt d st2 => rw [hb] at q; exact q
      | bk ρ2 st2 => rw [hb] at q; exact q.elim
      | ex e st2 => rw [hb] at q; exact q.elim
      | no => rw [hb] at q; exact q.elim
    · rw [e]
      exact q
/-! ### comprehensions -/
theorem Ok_comp {it : It} {n : Nat} {v : Nat → D} {b : D → Store → R (Option D)} {Q : List D → Store → Prop} (J : Nat → List D → Store → Prop) (hg : ∀ i acc st, J i acc st → getI st i it = some (if i < n then some (v i) else none)) (hl : ∀ i acc st, i ≤ n → J i acc st → acc.length ≤ 1000000)
    (hs : ∀ i, i < n → ∀ acc st, J i acc st → Ok (b (v i) st) fun o st' => J (i + 1) (acc ++ o.toList) st') (hn : ∀ acc st, J n acc st → Q acc st) :
    ∀ (k i : Nat) (acc : List D) (st : Store), i + k = n → J i acc st → Ok (compL it b k i acc st) Q
  | k, i, acc, st, hk, h => by
    unfold compL
    rw [hg i acc st h]
    by_cases hi : i < n
    · rw [if_pos hi]
      obtain ⟨k, rfl⟩ : ∃ k', k = k' + 1 := ⟨k - 1, by omega⟩
      obtain ⟨o, st', e, q⟩ := (hs i hi acc st h).eq
      show Ok ((noEx (b (v i) st)).bind _) _
      rw [e, noEx_ok, R.bind_ok, if_pos (by unfold fits; exact decide_eq_true (hl i acc st (by omega) h))]
      exact Ok_comp J hg hl hs hn k (i + 1) _ _ (by omega) q
    · rw [if_neg hi]
      exact hn acc st (by have : i = n := by omega
                          rw [← this]; exact h)
/-- a comprehension whose elements leave the store: the list -/
theorem comp_pure {it : It} {b : D → Store → R (Option D)} {st : Store} {l : List D} {o : D → Option D} (hg : ∀ i, getI st i it = some l[i]?) (hl : l.length ≤ 1000000) (hb : ∀ d ∈ l, b d st = .ok (o d) st) : compL it b l.length 0 [] st = .ok (l.filterMap o) st := by
  have key : Ok (compL it b l.length 0 [] st) fun ys st' => ys = l.filterMap o ∧ st' = st := by
    refine Ok_comp (n := l.length) (v := fun i => l.getD i (.t .non)) (fun i acc st' => acc = (l.take i).filterMap o ∧ st' = st) (fun i acc st' h => ?_) (fun i acc st' hi h => ?_) (fun i hi acc st' h => ?_) (fun acc st' h => ?_) l.length 0 [] st (Nat.zero_add _) ⟨rfl, rfl⟩
    · rw [h.2, hg]
      by_cases hi : i < l.length
      · rw [if_pos hi, List.getElem?_eq_getElem hi, List.getD_eq_getElem?_getD, List.getElem?_eq_getElem hi]
        rfl
      · rw [if_neg hi, List.getElem?_eq_none (by omega)]
    · rw [h.1]
      have h1 := List.length_filterMap_le o (l.take i)
      have h2 := List.length_take_le i l
      have h3 := List.length_take_le' i l
      omega
    · obtain ⟨rfl, rfl⟩ := h
      have e : l.getD i (.t .non) = l[i] := by rw [List.getD_eq_getElem?_getD, List.getElem?_eq_getElem hi]; rfl
      rw [e, hb _ (List.getElem_mem hi)]
      refine ⟨?_, rfl⟩
      rw [List.take_succ_eq_append_getElem hi, List.filterMap_append]
      cases h : o l[i] <;> simp [h]
    · rw [List.take_length] at h
      exact h
  obtain ⟨ys, st', e, rfl, rfl⟩ := key.eq
  exact e
end
/-! ### calls -/
theorem reach_trees {st : Store} : ∀ {ds : List D} {acc : List Nat}, (∀ d ∈ ds, ∃ x, d = .t x) → ds.foldl (reachD st 4) acc = acc
  | [], _, _ => rfl
  | d :: ds, acc, h => by
    obtain ⟨x, rfl⟩ := h d List.mem_cons_self
    show ds.foldl (reachD st 4) acc = acc
    exact reach_trees fun e he => h e (List.mem_cons_of_mem _ he)
theorem ren_trees {ks : List Nat} : ∀ {ds : List D}, (∀ d ∈ ds, ∃ x, d = .t x) → ds.map (renD ks) = ds
  | [], _ => rfl
  | d :: ds, h => by
    obtain ⟨x, rfl⟩ := h d List.mem_cons_self
    rw [List.map_cons, ren_trees fun e he => h e (List.mem_cons_of_mem _ he)]
    rfl
theorem okKs_trees {st : Store} : ∀ {ds : List D}, (∀ d ∈ ds, ∃ x, d = .t x) → okKs [] st ds = true := fun {ds} h => by
  unfold okKs
  have : ds.all (inKs []) = true := List.all_eq_true.mpr fun d hd => by
    obtain ⟨x, rfl⟩ := h d hd
    rfl
  rw [this]
  rfl
theorem call0_trees {cf : CallF} {f : String} {args : List D} {st : Store} (ht : ∀ d ∈ args, ∃ x, d = .t x) : callD0 cf f args st = match cf f args [] with
    | .no => .no
    | .ex e _ => .ex e st
    | .ok d st' => giveBack [] st d st' := by
  have e1 : reach st args = [] := reach_trees ht
  unfold callD0
  rw [e1]
  show (if okKs [] st args = false then R.no else match cf f (args.map (renD [])) [] with
    | .no => .no
    | .ex e st' => if closedS 0 st' then .ex e (backS [] st st' true) else .no
    | .ok d st' => giveBack [] st d st') = _
  rw [okKs_trees ht, if_neg (by decide), ren_trees ht]
  cases cf f args [] with
  | no => rfl
  | ex e st' =>
    show (if closedS 0 st' then R.ex e (backS [] st st' true) else .no) = .ex e st
    rw [show closedS 0 st' = true from rfl, if_pos rfl]
    unfold backS writeBack
    simp
  | ok d st' => rfl
/-- a tree back -/
theorem give_tree {st st' : Store} {x : T} : giveBack [] st (.t x) st' = .ok (.t x) st := by
  unfold giveBack backS writeBack
  simp [closedS]
theorem call_fill {P : Tab} {cf : CallF} {f : String} {F : Fn} {args : List D} {st : Store} (hF : P.fn f = some F) (hn : args.length = F.np) : callD P cf f args st = callD0 cf f args st := by
  unfold callD fill
  rw [hF]
  simp only
  rw [if_pos ⟨by omega, by omega⟩]
  simp [hn]
/-- a def that is called with trees, and gives a tree -/
theorem call_tree {P : Tab} {cf : CallF} {f : String} {F : Fn} {args : List D} {st st' : Store} {x : T} (hF : P.fn f = some F) (hn : args.length = F.np) (ht : ∀ d ∈ args, ∃ x, d = .t x) (h : cf f args [] = .ok (.t x) st') : callD P cf f args st = .ok (.t x) st := by
  rw [call_fill hF hn, call0_trees ht, h]
  exact give_tree
theorem call_ex {P : Tab} {cf : CallF} {f : String} {F : Fn} {args : List D} {st st' : Store} {e : Exn} (hF : P.fn f = some F) (hn : args.length = F.np) (ht : ∀ d ∈ args, ∃ x, d = .t x) (h : cf f args [] = .ex e st') : callD P cf f args st = .ex e st := by
  rw [call_fill hF hn, call0_trees ht, h]
theorem callN_succ {P : Tab} {n : Nat} {f : String} {F : Fn} {args : List D} {st : Store} (hF : P.fn f = some F) (hn : args.length = F.np) : callN P (n + 1) f args st = endF (execSs P (callN P n) F.body (startE F args) st) := by
  show (match P.fn f with
    | some F => if args.length = F.np then endF (execSs P (callN P n) F.body (startE F args) st) else .no
    | none => .no) = _
  rw [hF]
  exact if_pos hn
end Ice
end

section
set_option Elab.async false
set_option linter.all false
set_option maxRecDepth 100000
set_option maxHeartbeats 4000000
namespace Ice
open PySem
/-! ### lists of trees -/
@[simp] theorem trees_mp {α : Type} (f : α → T) : ∀ (xs : List α), trees (xs.map fun x => D.t (f x)) = some (xs.map f)
  | [] => rfl
  | x :: xs => by show (trees (xs.map fun x => D.t (f x))).map (f x :: ·) = _; rw [trees_mp f xs]; rfl
@[simp] theorem trees_t (xs : List T) : trees (xs.map D.t) = some xs := by
  have := trees_mp (fun x : T => x) xs
  simpa using this
theorem intsOf_map {α : Type} (f : α → Int) : ∀ (xs : List α), intsOf (xs.map fun x => D.t (.int (f x))) = some (xs.map f)
  | [] => rfl
  | x :: xs => by show (intsOf (xs.map fun x => D.t (.int (f x)))).map (f x :: ·) = _; rw [intsOf_map f xs]; rfl
theorem boolsOf_map {α : Type} (f : α → Bool) : ∀ (xs : List α), boolsOf (xs.map fun x => D.t (.bl (f x))) = some (xs.map f)
  | [] => rfl
  | x :: xs => by show (boolsOf (xs.map fun x => D.t (.bl (f x)))).map (f x :: ·) = _; rw [boolsOf_map f xs]; rfl
/-! ### comprehensions -/
theorem comp_filter {α : Type} {b : D → Store → R (Option D)} {st : Store} (xs : List α) {f g : α → D} {p : α → Bool} (hb : ∀ x ∈ xs, b (f x) st = .ok (if p x then some (g x) else none) st) (hl : xs.length ≤ 1000000) :
    compL (.xs (xs.map f)) b xs.length 0 [] st = .ok ((xs.filter p).map g) st := by
  have key : Ok (compL (.xs (xs.map f)) b xs.length 0 [] st) fun ys st' => ys = (xs.filter p).map g ∧ st' = st := by
    refine Ok_comp (n := xs.length) (v := fun i => (xs.map f).getD i (.t .non)) (fun i acc st' => acc = ((xs.take i).filter p).map g ∧ st' = st) (fun i acc st' h => ?_) (fun i acc st' hi h => ?_) (fun i hi acc st' h => ?_) (fun acc st' h => ?_) xs.length 0 [] st (Nat.zero_add _) ⟨rfl, rfl⟩
    · show some (xs.map f)[i]? = _
      by_cases hi : i < xs.length
      · rw [if_pos hi, List.getElem?_eq_getElem (by simpa using hi), List.getD_eq_getElem?_getD, List.getElem?_eq_getElem (by simpa using hi)]
        rfl
      · rw [if_neg hi, List.getElem?_eq_none (by simp; omega)]
    · rw [h.1, List.length_map]
      have h1 := List.length_filter_le p (xs.take i)
      have h3 := List.length_take_le' i xs
      omega
    · obtain ⟨rfl, rfl⟩ := h
      have e : (xs.map f).getD i (.t .non) = f xs[i] := by rw [List.getD_eq_getElem?_getD, List.getElem?_eq_getElem (by simpa using hi)]; simp
      rw [e, hb _ (List.getElem_mem hi)]
      refine ⟨?_, rfl⟩
      rw [List.take_succ_eq_append_getElem hi, List.filter_append, List.map_append]
      cases h : p xs[i] <;> simp [h]
    · rw [List.take_length] at h
      exact h
  obtain ⟨ys, st', e, rfl, rfl⟩ := key.eq
  exact e
theorem comp_map {α : Type} {b : D → Store → R (Option D)} {st : Store} (xs : List α) {f g : α → D} (hb : ∀ x ∈ xs, b (f x) st = .ok (some (g x)) st) (hl : xs.length ≤ 1000000) :
    compL (.xs (xs.map f)) b xs.length 0 [] st = .ok (xs.map g) st := by
  have := comp_filter (b := b) (st := st) xs (f := f) (g := g) (p := fun _ => true) (fun x hx => by simpa using hb x hx) hl
  rwa [List.filter_eq_self.mpr (fun _ _ => rfl)] at this
theorem compL_rng {b : D → Store → R (Option D)} {lo s : Int} {n : Nat} : ∀ (k i : Nat) (acc : List D) (st : Store), compL (.rng lo s n) b k i acc st = compL (.xs ((List.range n).map fun (i : Nat) => D.t (.int (lo + (i : Int) * s)))) b k i acc st := by
  intro k
  have hg : ∀ (i : Nat) (st : Store), getI st i (.rng lo s n) = getI st i (.xs ((List.range n).map fun (i : Nat) => D.t (.int (lo + (i : Int) * s)))) := by
    intro i st
    show some (if i < n then some (D.t (.int (lo + (i : Int) * s))) else none) = some ((List.range n).map fun (i : Nat) => D.t (.int (lo + (i : Int) * s)))[i]?
    by_cases hi : i < n
    · simp [hi]
    · simp [hi]
  induction k with
  | zero => intro i acc st; unfold compL; rw [hg]
  | succ k ih =>
    intro i acc st
    unfold compL
    rw [hg]
    simp only [ih]
theorem comp_rng {b : D → Store → R (Option D)} {st : Store} {n : Nat} {g : Nat → D} {p : Nat → Bool} (hb : ∀ i, i < n → b (.t (.int (i : Int))) st = .ok (if p i then some (g i) else none) st) (hl : n ≤ 1000000) :
    compL (.rng 0 1 n) b n 0 [] st = .ok (((List.range n).filter p).map g) st := by
  rw [compL_rng]
  have := comp_filter (b := b) (st := st) (List.range n) (f := fun i : Nat => D.t (.int (0 + (i : Int) * 1))) (g := g) (p := p) (fun i hi => by simpa using hb i (List.mem_range.mp hi)) (by simpa using hl)
  simpa using this
theorem comp_f {α : Type} {l : List D} {b : D → Store → R (Option D)} {st st' : Store} (xs : List α) (f g : α → D) (p : α → Bool) (hl : l = xs.map f) (hb : ∀ x ∈ xs, b (f x) st = .ok (if p x then some (g x) else none) st) (hn : xs.length ≤ 1000000) :
    compL (.xs l) b (lenI st' (.xs l)) 0 [] st = .ok ((xs.filter p).map g) st := by
  subst hl
  show compL _ b (xs.map f).length 0 [] st = _
  rw [List.length_map]
  exact comp_filter xs hb hn
theorem comp_m {α : Type} {l : List D} {b : D → Store → R (Option D)} {st st' : Store} (xs : List α) (f g : α → D) (hl : l = xs.map f) (hb : ∀ x ∈ xs, b (f x) st = .ok (some (g x)) st) (hn : xs.length ≤ 1000000) :
    compL (.xs l) b (lenI st' (.xs l)) 0 [] st = .ok (xs.map g) st := by
  subst hl
  show compL _ b (xs.map f).length 0 [] st = _
  rw [List.length_map]
  exact comp_map xs hb hn
@[simp] theorem get_last {s0 : Store} {o : O} : (s0 ++ [o])[s0.length]? = some o := by simp
@[simp] theorem set_last {s0 : Store} {o p : O} : (s0 ++ [o]).set s0.length p = s0 ++ [p] := by simp
theorem comp_r {n : Nat} {b : D → Store → R (Option D)} {st st' : Store} (g : Nat → D) (p : Nat → Bool) (hb : ∀ i, i < n → b (.t (.int (i : Int))) st = .ok (if p i then some (g i) else none) st) (hl : n ≤ 1000000) :
    compL (.rng 0 1 n) b (lenI st' (.rng 0 1 n)) 0 [] st = .ok (((List.range n).filter p).map g) st := comp_rng hb hl
theorem comp_ra {n : Nat} {b : D → Store → R (Option D)} {st st' : Store} (g : Nat → D) (hb : ∀ i, i < n → b (.t (.int (i : Int))) st = .ok (some (g i)) st) (hl : n ≤ 1000000) :
    compL (.rng 0 1 n) b (lenI st' (.rng 0 1 n)) 0 [] st = .ok ((List.range n).map g) st := by
  have := comp_rng (b := b) (g := g) (p := fun _ => true) (st := st) (fun i hi => by simpa using hb i hi) hl
  rwa [List.filter_eq_self.mpr (fun _ _ => rfl)] at this
theorem En_for_m {α : Type} {l : List D} {tg : Tg} {body : Env → Store → Fw} {N : Env → Store → Prop} {T : D → Store → Prop} {ρ : Env} {st st' : Store} (xs : List α) (f : α → D) (hl : l = xs.map f) (J : Nat → Env → Store → Prop) (h0 : J 0 ρ st) (hs : ∀ i (hi : i < xs.length), ∀ ρ st, J i ρ st → ∃ ρ', bindT tg (f xs[i]) ρ = some ρ' ∧ En (body ρ' st) (J (i + 1)) T) (hn : ∀ ρ st, J xs.length ρ st → N ρ st) :
    En (forL (.xs l) tg body (lenI st' (.xs l)) 0 ρ st) N T := by
  subst hl
  refine En_for_xs J h0 (fun i hi ρ st h => ?_) (fun ρ st h => hn ρ st (by simpa using h))
  rw [List.getElem_map]
  exact hs i (by simpa using hi) ρ st h
theorem evI_range1 {P : Tab} {cf : CallF} {ρ : Env} {st : Store} {a : Ex} {x : Int} (ha : evalE P cf a ρ st = .ok (I x) st) (h : -1000000000 ≤ x ∧ x ≤ 1000000000) : evalI P cf (.range (.cons a .nil)) ρ st = .ok (.rng 0 1 x.toNat) st := by
  simp only [evalI, evalEs, ha, R.bind_ok, rangeI]
  rw [if_pos h]
  rfl
theorem evI_range2 {P : Tab} {cf : CallF} {ρ : Env} {st : Store} {a b : Ex} {x y : Int} (ha : evalE P cf a ρ st = .ok (I x) st) (hb : evalE P cf b ρ st = .ok (I y) st) (h : (-1000000000 ≤ x ∧ x ≤ 1000000000) ∧ -1000000000 ≤ y ∧ y ≤ 1000000000) : evalI P cf (.range (.cons a (.cons b .nil))) ρ st = .ok (.rng x 1 (y - x).toNat) st := by
  simp only [evalI, evalEs, ha, hb, R.bind_ok, rangeI]
  rw [if_pos h]
  rfl
/-! ### a call with handles that leaves what it was given -/
theorem unren {ks : List Nat} {base : Nat} {d : D} (h : inKs ks d = true) : unD ks base (renD ks d) = d := by
  cases d with
  | t x => rfl
  | h k =>
    have hk : k ∈ ks := by simpa [inKs] using h
    have hi := List.idxOf_lt_length_iff.mpr hk
    show (if ks.idxOf k < ks.length then D.h (ks.getD (ks.idxOf k) 0) else _) = _
    rw [if_pos hi, List.getD_eq_getElem?_getD, List.getElem?_eq_getElem hi, Option.getD_some, List.getElem_idxOf hi]
theorem unren_o {ks : List Nat} {base : Nat} {o : O} (h : objIn ks o = true) : mapO (unD ks base) (mapO (renD ks) o) = o := by
  cases o with
  | lst xs =>
    have h : ∀ d ∈ xs, inKs ks d = true := by simpa [objIn] using h
    show O.lst ((xs.map (renD ks)).map (unD ks base)) = _
    rw [List.map_map]
    congr 1
    refine (List.map_congr_left fun d hd => ?_).trans (List.map_id _)
    exact unren (h d hd)
  | ins c fs =>
    have h : ∀ p ∈ fs, inKs ks p.2 = true := fun p hp => List.all_eq_true.mp (show fs.all (fun p => inKs ks p.2) = true from h) p hp
    show O.ins c ((fs.map fun p => (p.1, renD ks p.2)).map fun p => (p.1, unD ks base p.2)) = _
    rw [List.map_map]
    congr 1
    refine (List.map_congr_left fun p hp => ?_).trans (List.map_id _)
    show (p.1, unD ks base (renD ks p.2)) = p
    rw [unren (h p hp)]
  | dT kvs => rfl
  | dK kvs => rfl
  | dead => rfl
theorem write_same (f : Nat → O) : ∀ {ks : List Nat} {st : Store}, (∀ k ∈ ks, st[k]? = some (f k)) → writeBack st ks (ks.map f) = st
  | [], st, _ => rfl
  | k :: ks, st, h => by
    show writeBack (st.set k (f k)) ks (ks.map f) = st
    have e : st.set k (f k) = st := by
      apply List.ext_getElem?
      intro i
      rw [List.getElem?_set]
      have hk := h k List.mem_cons_self
      by_cases c : k = i
      · subst c
        rw [if_pos rfl, hk]
        rw [if_pos (List.getElem?_eq_some_iff.mp hk).1]
      · rw [if_neg c]
    rw [e]
    exact write_same f fun j hj => h j (List.mem_cons_of_mem _ hj)
theorem ok_obj {ks : List Nat} {st : Store} {args : List D} (h : okKs ks st args = true) {k : Nat} (hk : k ∈ ks) : k < st.length ∧ objIn ks (st.getD k .dead) = true := by
  unfold okKs at h
  rw [Bool.and_eq_true, Bool.and_eq_true] at h
  have := List.all_eq_true.mp h.1.2 k hk
  rw [Bool.and_eq_true] at this
  exact ⟨of_decide_eq_true this.1, this.2⟩
theorem back_same {ks : List Nat} {st : Store} {args : List D} (h : okKs ks st args = true) (more : Store) : backS ks st (subS ks st ++ more) true = st := by
  unfold backS
  have hl : (subS ks st).length = ks.length := by simp [subS]
  rw [show (subS ks st ++ more).take ks.length = subS ks st from by rw [← hl]; simp]
  rw [if_pos rfl, List.append_nil]
  have e : (subS ks st).map (mapO (unD ks st.length)) = ks.map fun k => st.getD k .dead := by
    unfold subS
    rw [List.map_map]
    exact List.map_congr_left fun k hk => unren_o (ok_obj h hk).2
  rw [e]
  refine write_same _ fun k hk => ?_
  rw [List.getD_eq_getElem?_getD, List.getElem?_eq_getElem (ok_obj h hk).1]
  rfl
theorem ren_below {ks : List Nat} {d : D} (h : inKs ks d = true) : belowD ks.length (renD ks d) = true := by
  cases d with
  | t x => rfl
  | h k =>
    have hk : k ∈ ks := by simpa [inKs] using h
    exact decide_eq_true (List.idxOf_lt_length_iff.mpr hk)
theorem sub_closed {ks : List Nat} {st : Store} {args : List D} (h : okKs ks st args = true) (more : Store) : closedS ks.length (subS ks st ++ more) = true := by
  unfold closedS
  have hl : (subS ks st).length = ks.length := by simp [subS]
  rw [show (subS ks st ++ more).take ks.length = subS ks st from by rw [← hl]; simp]
  refine List.all_eq_true.mpr fun o ho => ?_
  unfold subS at ho
  obtain ⟨k, hk, rfl⟩ := List.mem_map.mp ho
  have ho := (ok_obj h hk).2
  revert ho
  cases st.getD k .dead with
  | lst xs =>
    intro ho
    refine List.all_eq_true.mpr fun d hd => ?_
    obtain ⟨e, he, rfl⟩ := List.mem_map.mp hd
    exact ren_below (List.all_eq_true.mp ho e he)
  | ins c fs =>
    intro ho
    refine List.all_eq_true.mpr fun d hd => ?_
    obtain ⟨e, he, rfl⟩ := List.mem_map.mp hd
    exact ren_below (List.all_eq_true.mp ho e he)
  | dT kvs => intro _; rfl
  | dK kvs => intro _; rfl
  | dead => intro _; rfl
/-- the callee gives a tree and leaves what it was given -/
theorem call_keep {P : Tab} {cf : CallF} {f : String} {F : Fn} {args : List D} {st more : Store} {x : T} (hF : P.fn f = some F) (hn : args.length = F.np) {ks : List Nat} (hr : reach st args = ks) (hk : okKs ks st args = true) (h : cf f (args.map (renD ks)) (subS ks st) = .ok (.t x) (subS ks st ++ more)) :
    callD P cf f args st = .ok (.t x) st := by
  subst hr
  rw [call_fill hF hn]
  unfold callD0
  simp only [hk]
  rw [if_neg (by decide), h]
  show R.ok (D.t x) (backS _ _ _ (closedS _ _)) = _
  rw [sub_closed hk, back_same hk]
/-- the callee gives a list that it made -/
theorem call_made {P : Tab} {cf : CallF} {f : String} {F : Fn} {args : List D} {st : Store} {xs : List T} (hF : P.fn f = some F) (hn : args.length = F.np) {ks : List Nat} (hr : reach st args = ks) (hk : okKs ks st args = true) (h : cf f (args.map (renD ks)) (subS ks st) = .ok (.h ks.length) (subS ks st ++ [O.lst (xs.map D.t)])) :
    callD P cf f args st = .ok (.t (.lst xs)) st := by
  subst hr
  rw [call_fill hF hn]
  unfold callD0
  simp only [hk]
  rw [if_neg (by decide), h]
  show giveBack _ _ _ _ = _
  unfold giveBack
  simp only
  rw [if_neg (by omega)]
  have hl : (subS (reach st args) st).length = (reach st args).length := by simp [subS]
  have e : freezeD (reach st args).length (subS (reach st args) st ++ [O.lst (xs.map D.t)]) 3 (.h (reach st args).length) = some (T.lst xs) := by
    show (if (reach st args).length < (reach st args).length then none else match (subS (reach st args) st ++ [O.lst (xs.map .t)])[(reach st args).length]? with
      | some (.lst ys) => (ys.mapM (freezeD (reach st args).length (subS (reach st args) st ++ [O.lst (xs.map .t)]) 2)).map T.lst
      | _ => none) = _
    rw [if_neg (by omega)]
    rw [show (subS (reach st args) st ++ [O.lst (xs.map .t)])[(reach st args).length]? = some (O.lst (xs.map D.t)) from by rw [← hl]; simp]
    have : ∀ (m : Nat) (s : Store) (l : List T), (l.map D.t).mapM (freezeD m s 2) = some l := by
      intro m s l
      induction l with
      | nil => rfl
      | cons x l ih => rw [List.map_cons, List.mapM_cons, ih]; rfl
    show Option.map T.lst ((xs.map D.t).mapM (freezeD (reach st args).length (subS (reach st args) st ++ [O.lst (xs.map D.t)]) 2)) = some (T.lst xs)
    rw [this]
    rfl
  rw [e]
  simp only
  rw [sub_closed hk, if_pos rfl, back_same hk]
end Ice
end

section
/-! the table, printed by gen.py -/
namespace K12
open PySem Ice
def F_is_integer_0 : Sms := .cons (.ret (.and2 (.isi (.var 0) [.int]) (.nt (.isi (.var 0) [.bool])))) .nil
def F_is_integer : Fn := ⟨1, ["thing"], [], F_is_integer_0⟩
def F_is_within_0 : Sms := .cons (.ret (.and2 (.call "is_integer" (.cons (.var 0) .nil)) (.chain .le .le (.var 1) (.var 0) (.var 2)))) .nil
def F_is_within : Fn := ⟨3, ["thing", "least", "most"], [], F_is_within_0⟩
def F_is_row_0 : Sms := .cons (.ret (.isi (.var 0) [.list, .tuple])) .nil
def F_is_row : Fn := ⟨1, ["thing"], [], F_is_row_0⟩
def F_is_tuple_of_0 : Sms := .cons (.ret (.and2 (.isi (.var 0) [.tuple]) (.cmp .eq (.bi .len (.cons (.var 0) .nil)) (.var 1)))) .nil
def F_is_tuple_of : Fn := ⟨2, ["thing", "many"], [], F_is_tuple_of_0⟩
def F_is_day_0 : Sms := .cons (.ret (.and2 (.call "is_tuple_of" (.cons (.var 0) (.cons (.lit (.int 4)) .nil))) (.bi .all (.cons (.fr (.comp (.call "is_within" (.cons (.var 1) (.cons (.lit (.int 0)) (.cons (.var 2) .nil)))) (.tp (.cons (.nm 1) (.cons (.nm 2) .nil))) (.zip (.var 0) (.glb "MOSTS")) .non [1, 2])) .nil)))) .nil
def F_is_day : Fn := ⟨1, ["thing", "one", "most"], [], F_is_day_0⟩
def F_check_days_0a_0 : Sms := .cons (.raise "BadDays" (.cons (.neg (.lit (.int 1))) .nil)) .nil
def F_check_days_1a_0a_0 : Sms := .cons (.raise "BadDays" (.cons (.var 1) .nil)) .nil
def F_check_days_1a_0 : Sms := .cons (.if_ (.nt (.call "is_day" (.cons (.var 2) .nil))) F_check_days_1a_0a_0 .nil) .nil
def F_check_days_1 : Sms := .cons (.for_ (.tp (.cons (.nm 1) (.cons (.nm 2) .nil))) (.enum (.var 0)) F_check_days_1a_0) .nil
def F_check_days_0 : Sms := .cons (.if_ (.or2 (.nt (.call "is_row" (.cons (.var 0) .nil))) (.nt (.chain .le .le (.lit (.int 1)) (.bi .len (.cons (.var 0) .nil)) (.glb "MOST_DAYS")))) F_check_days_0a_0 .nil) F_check_days_1
def F_check_days : Fn := ⟨1, ["days", "index", "day"], [], F_check_days_0⟩
def F_check_numbers_0a_0 : Sms := .cons (.raise "BadWarmth" (.cons (.var 0) .nil)) .nil
def F_check_numbers_1a_0 : Sms := .cons (.raise "BadDoor" (.cons (.var 1) .nil)) .nil
def F_check_numbers_2a_0 : Sms := .cons (.raise "BadStraw" (.cons (.var 2) .nil)) .nil
def F_check_numbers_2 : Sms := .cons (.if_ (.nt (.call "is_within" (.cons (.var 2) (.cons (.lit (.int 0)) (.cons (.glb "MOST_STRAW") .nil))))) F_check_numbers_2a_0 .nil) .nil
def F_check_numbers_1 : Sms := .cons (.if_ (.nt (.call "is_within" (.cons (.var 1) (.cons (.lit (.int 0)) (.cons (.glb "MOST_DOOR") .nil))))) F_check_numbers_1a_0 .nil) F_check_numbers_2
def F_check_numbers_0 : Sms := .cons (.if_ (.nt (.call "is_within" (.cons (.var 0) (.cons (.lit (.int 0)) (.cons (.glb "MOST_WARMTH") .nil))))) F_check_numbers_0a_0 .nil) F_check_numbers_1
def F_check_numbers : Fn := ⟨3, ["warmth", "door", "straw"], [], F_check_numbers_0⟩
def F_House___init___5 : Sms := .cons (.setA (.var 0) "straw" (.var 4)) .nil
def F_House___init___4 : Sms := .cons (.setA (.var 0) "door" (.var 3)) F_House___init___5
def F_House___init___3 : Sms := .cons (.setA (.var 0) "warmth" (.var 2)) F_House___init___4
def F_House___init___2 : Sms := .cons (.setA (.var 0) "days" (.bi .tuple (.cons (.var 1) .nil))) F_House___init___3
def F_House___init___1 : Sms := .cons (.ex (.call "check_numbers" (.cons (.var 2) (.cons (.var 3) (.cons (.var 4) .nil))))) F_House___init___2
def F_House___init___0 : Sms := .cons (.ex (.call "check_days" (.cons (.var 1) .nil))) F_House___init___1
def F_House___init__ : Fn := ⟨5, ["self", "days", "warmth", "door", "straw"], [(.int 0), (.int 0)], F_House___init___0⟩
def F_House___eq___0 : Sms := .cons (.ret (.and2 (.isi (.var 1) [.cls "House"]) (.cmp .eq (.meth (.var 0) "parts" .nil) (.meth (.var 1) "parts" .nil)))) .nil
def F_House___eq__ : Fn := ⟨2, ["self", "other"], [], F_House___eq___0⟩
def F_House_parts_0 : Sms := .cons (.ret (.tup (.cons (.att (.var 0) "days") (.cons (.att (.var 0) "warmth") (.cons (.att (.var 0) "door") (.cons (.att (.var 0) "straw") .nil)))))) .nil
def F_House_parts : Fn := ⟨1, ["self"], [], F_House_parts_0⟩
def F_check_ice_0a_0 : Sms := .cons (.raise "BadIce" (.cons (.var 0) .nil)) .nil
def F_check_ice_0 : Sms := .cons (.if_ (.nt (.call "is_within" (.cons (.var 0) (.cons (.lit (.int 0)) (.cons (.glb "MOST_ICE") .nil))))) F_check_ice_0a_0 .nil) .nil
def F_check_ice : Fn := ⟨1, ["ice"], [], F_check_ice_0⟩
def F_check_day_0a_0 : Sms := .cons (.raise "BadDay" (.cons (.var 1) .nil)) .nil
def F_check_day_0 : Sms := .cons (.if_ (.nt (.call "is_within" (.cons (.var 1) (.cons (.lit (.int 0)) (.cons (.bin .sub (.bi .len (.cons (.att (.var 0) "days") .nil)) (.lit (.int 1))) .nil))))) F_check_day_0a_0 .nil) .nil
def F_check_day : Fn := ⟨2, ["house", "day"], [], F_check_day_0⟩
def F_melted_0 : Sms := .cons (.ret (.bin .add (.sub (.var 0) (.lit (.int 1))) (.bin .mul (.var 1) (.bi .max (.cons (.lit (.int 0)) (.cons (.bin .sub (.sub (.var 0) (.lit (.int 2))) (.var 2)) .nil)))))) .nil
def F_melted : Fn := ⟨3, ["day", "degrees", "sacks"], [], F_melted_0⟩
def F_taken_0 : Sms := .cons (.ret (.ite (.cmp .gt (.sub (.var 0) (.lit (.int 0))) (.lit (.int 0))) (.bin .add (.sub (.var 0) (.lit (.int 0))) (.var 1)) (.lit (.int 0)))) .nil
def F_taken : Fn := ⟨2, ["day", "door"], [], F_taken_0⟩
def F_Needs___init___3 : Sms := .cons (.setA (.var 0) "known" .mud) .nil
def F_Needs___init___2 : Sms := .cons (.setA (.var 0) "last" (.bik .max (.fr (.comp (.var 3) (.tp (.cons (.nm 3) (.cons (.nm 4) .nil))) (.enum (.var 1)) (.som (.cmp .gt (.sub (.var 4) (.lit (.int 0))) (.lit (.int 0)))) [3, 4])) (.neg (.lit (.int 1))))) F_Needs___init___3
def F_Needs___init___1 : Sms := .cons (.setA (.var 0) "door" (.var 2)) F_Needs___init___2
def F_Needs___init___0 : Sms := .cons (.setA (.var 0) "days" (.var 1)) F_Needs___init___1
def F_Needs___init__ : Fn := ⟨3, ["self", "days", "door", "number", "day"], [], F_Needs___init___0⟩
def F_Needs_of_0a_0 : Sms := .cons (.ret (.lit (.int 0))) .nil
def F_Needs_of_2a_0 : Sms := .cons (.setI (.att (.var 0) "known") (.var 4) (.bi .max (.cons (.fr (.comp (.meth (.var 0) "least" (.cons (.var 1) (.cons (.var 2) (.cons (.var 3) (.cons (.var 5) .nil))))) (.nm 5) (.it (.meth (.var 0) "degrees" (.cons (.var 1) (.cons (.var 3) .nil)))) .non [5])) .nil))) .nil
def F_Needs_of_3 : Sms := .cons (.ret (.sub (.att (.var 0) "known") (.var 4))) .nil
def F_Needs_of_2 : Sms := .cons (.if_ (.cmp .notIn (.var 4) (.att (.var 0) "known")) F_Needs_of_2a_0 .nil) F_Needs_of_3
def F_Needs_of_1 : Sms := .cons (.asg (.nm 4) (.tup (.cons (.var 1) (.cons (.var 2) (.cons (.var 3) .nil))))) F_Needs_of_2
def F_Needs_of_0 : Sms := .cons (.if_ (.cmp .gt (.var 1) (.att (.var 0) "last")) F_Needs_of_0a_0 .nil) F_Needs_of_1
def F_Needs_of : Fn := ⟨4, ["self", "day", "straw", "warmth", "key", "one"], [], F_Needs_of_0⟩
def F_Needs_degrees_0 : Sms := .cons (.ret (.fr (.ofIt (.range (.cons (.bin .add (.bi .min (.cons (.sub (.sub (.att (.var 0) "days") (.var 1)) (.lit (.int 3))) (.cons (.var 2) .nil))) (.lit (.int 1))) .nil))))) .nil
def F_Needs_degrees : Fn := ⟨3, ["self", "day", "warmth"], [], F_Needs_degrees_0⟩
def F_Needs_with_sacks_1a_0 : Sms := .cons (.ret (.var 6)) .nil
def F_Needs_with_sacks_2 : Sms := .cons (.ret (.bin .add (.bin .add (.var 6) (.call "melted" (.cons (.sub (.att (.var 0) "days") (.var 1)) (.cons (.var 4) (.cons (.var 5) .nil))))) (.meth (.var 0) "of" (.cons (.bin .add (.var 1) (.lit (.int 1))) (.cons (.bin .sub (.var 2) (.var 5)) (.cons (.bin .sub (.var 3) (.var 4)) .nil)))))) .nil
def F_Needs_with_sacks_1 : Sms := .cons (.if_ (.cmp .eq (.var 1) (.att (.var 0) "last")) F_Needs_with_sacks_1a_0 .nil) F_Needs_with_sacks_2
def F_Needs_with_sacks_0 : Sms := .cons (.asg (.nm 6) (.call "taken" (.cons (.sub (.att (.var 0) "days") (.var 1)) (.cons (.att (.var 0) "door") .nil)))) F_Needs_with_sacks_1
def F_Needs_with_sacks : Fn := ⟨6, ["self", "day", "straw", "warmth", "degrees", "sacks", "own"], [], F_Needs_with_sacks_0⟩
def F_Needs_least_0 : Sms := .cons (.ret (.bi .min (.cons (.fr (.comp (.meth (.var 0) "with_sacks" (.cons (.var 1) (.cons (.var 2) (.cons (.var 3) (.cons (.var 4) (.cons (.var 5) .nil)))))) (.nm 5) (.range (.cons (.bin .add (.var 2) (.lit (.int 1))) .nil)) .non [5])) .nil))) .nil
def F_Needs_least : Fn := ⟨5, ["self", "day", "straw", "warmth", "degrees", "sacks"], [], F_Needs_least_0⟩
def F_needs_of_0 : Sms := .cons (.ret (.new "Needs" (.cons (.att (.var 0) "days") (.cons (.att (.var 0) "door") .nil)))) .nil
def F_needs_of : Fn := ⟨1, ["house"], [], F_needs_of_0⟩
def F_told_need_0 : Sms := .cons (.ret (.meth (.call "needs_of" (.cons (.var 0) .nil)) "of" (.cons (.lit (.int 0)) (.cons (.att (.var 0) "straw") (.cons (.att (.var 0) "warmth") .nil))))) .nil
def F_told_need : Fn := ⟨1, ["house"], [], F_told_need_0⟩
def F_whole_need_0 : Sms := .cons (.ret (.call "told_need" (.cons (.var 0) .nil))) .nil
def F_whole_need : Fn := ⟨1, ["house"], [], F_whole_need_0⟩
def F_is_sure_0 : Sms := .cons (.ret (.cmp .le (.call "told_need" (.cons (.var 0) .nil)) (.var 1))) .nil
def F_is_sure : Fn := ⟨2, ["house", "ice"], [], F_is_sure_0⟩
def F_least_straw_1a_0a_0 : Sms := .cons (.ret (.var 2)) .nil
def F_least_straw_1a_0 : Sms := .cons (.if_ (.call "is_sure" (.cons (.new "House" (.cons (.att (.var 0) "days") (.cons (.att (.var 0) "warmth") (.cons (.att (.var 0) "door") (.cons (.var 2) .nil))))) (.cons (.var 1) .nil))) F_least_straw_1a_0a_0 .nil) .nil
def F_least_straw_2 : Sms := .cons (.ret (.lit .non)) .nil
def F_least_straw_1 : Sms := .cons (.for_ (.nm 2) (.range (.cons (.bin .add (.glb "MOST_STRAW") (.lit (.int 1))) .nil)) F_least_straw_1a_0) F_least_straw_2
def F_least_straw_0 : Sms := .cons (.ex (.call "check_ice" (.cons (.var 1) .nil))) F_least_straw_1
def F_least_straw : Fn := ⟨2, ["house", "ice", "straw"], [], F_least_straw_0⟩
def F_most_warmth_1a_0a_0 : Sms := .cons (.ret (.var 2)) .nil
def F_most_warmth_1a_0 : Sms := .cons (.if_ (.call "is_sure" (.cons (.new "House" (.cons (.att (.var 0) "days") (.cons (.var 2) (.cons (.att (.var 0) "door") (.cons (.att (.var 0) "straw") .nil))))) (.cons (.var 1) .nil))) F_most_warmth_1a_0a_0 .nil) .nil
def F_most_warmth_2 : Sms := .cons (.ret (.lit .non)) .nil
def F_most_warmth_1 : Sms := .cons (.for_ (.nm 2) (.range (.cons (.glb "MOST_WARMTH") (.cons (.neg (.lit (.int 1))) (.cons (.neg (.lit (.int 1))) .nil)))) F_most_warmth_1a_0) F_most_warmth_2
def F_most_warmth_0 : Sms := .cons (.ex (.call "check_ice" (.cons (.var 1) .nil))) F_most_warmth_1
def F_most_warmth : Fn := ⟨2, ["house", "ice", "warmth"], [], F_most_warmth_0⟩
def F_with_promise_0 : Sms := .cons (.ret (.tup (.star (.cut (.att (.var 0) "days") .non (.som (.var 1))) (.cons (.tup (.cons (.var 2) (.star (.cut (.sub (.att (.var 0) "days") (.var 1)) (.som (.lit (.int 1))) .non) .nil))) (.star (.cut (.att (.var 0) "days") (.som (.bin .add (.var 1) (.lit (.int 1)))) .non) .nil))))) .nil
def F_with_promise : Fn := ⟨3, ["house", "day", "promise"], [], F_with_promise_0⟩
def F_need_of_days_0 : Sms := .cons (.ret (.meth (.new "Needs" (.cons (.var 1) (.cons (.att (.var 0) "door") .nil))) "of" (.cons (.lit (.int 0)) (.cons (.att (.var 0) "straw") (.cons (.att (.var 0) "warmth") .nil))))) .nil
def F_need_of_days : Fn := ⟨2, ["house", "days"], [], F_need_of_days_0⟩
def F_most_promise_2a_0a_0 : Sms := .cons (.ret (.var 3)) .nil
def F_most_promise_2a_0 : Sms := .cons (.if_ (.cmp .le (.call "need_of_days" (.cons (.var 0) (.cons (.call "with_promise" (.cons (.var 0) (.cons (.var 2) (.cons (.var 3) .nil)))) .nil))) (.var 1)) F_most_promise_2a_0a_0 .nil) .nil
def F_most_promise_3 : Sms := .cons (.ret (.lit .non)) .nil
def F_most_promise_2 : Sms := .cons (.for_ (.nm 3) (.range (.cons (.glb "MOST_PROMISE") (.cons (.neg (.lit (.int 1))) (.cons (.neg (.lit (.int 1))) .nil)))) F_most_promise_2a_0) F_most_promise_3
def F_most_promise_1 : Sms := .cons (.ex (.call "check_day" (.cons (.var 0) (.cons (.var 2) .nil)))) F_most_promise_2
def F_most_promise_0 : Sms := .cons (.ex (.call "check_ice" (.cons (.var 1) .nil))) F_most_promise_1
def F_most_promise : Fn := ⟨3, ["house", "ice", "day", "promise"], [], F_most_promise_0⟩
def F_last_kept_1a_1a_0 : Sms := .cons (.ret (.var 2)) .nil
def F_last_kept_1a_1 : Sms := .cons (.if_ (.cmp .le (.call "need_of_days" (.cons (.var 0) (.cons (.var 3) .nil))) (.var 1)) F_last_kept_1a_1a_0 .nil) .nil
def F_last_kept_1a_0 : Sms := .cons (.asg (.nm 3) (.tup (.star (.cut (.att (.var 0) "days") .non (.som (.var 2))) (.star (.fr (.comp (.tup (.cons (.lit (.int 0)) (.star (.cut (.var 4) (.som (.lit (.int 1))) .non) .nil))) (.nm 4) (.it (.cut (.att (.var 0) "days") (.som (.var 2)) .non)) .non [4])) .nil)))) F_last_kept_1a_1
def F_last_kept_2 : Sms := .cons (.ret (.lit (.int 0))) .nil
def F_last_kept_1 : Sms := .cons (.for_ (.nm 2) (.range (.cons (.bi .len (.cons (.att (.var 0) "days") .nil)) (.cons (.lit (.int 0)) (.cons (.neg (.lit (.int 1))) .nil)))) F_last_kept_1a_0) F_last_kept_2
def F_last_kept_0 : Sms := .cons (.ex (.call "check_ice" (.cons (.var 1) .nil))) F_last_kept_1
def F_last_kept : Fn := ⟨2, ["house", "ice", "many", "days", "day"], [], F_last_kept_0⟩
def F__law_taken_0a_2 : Sms := .cons (.ret (.var 3)) .nil
def F__law_taken_0a_1 : Sms := .cons (.setI (.var 0) (.lit (.int 3)) (.bin .fdiv (.sub (.var 0) (.lit (.int 3))) (.var 1))) F__law_taken_0a_2
def F__law_taken_0a_0 : Sms := .cons (.asg (.nm 3) (.bin .mod (.bi .int (.cons (.sub (.var 0) (.lit (.int 3))) .nil)) (.var 1))) F__law_taken_0a_1
def F__law_taken_2a_1 : Sms := .cons (.ret (.bin .mod (.bi .int (.cons (.bin .fdiv (.sub (.var 0) (.lit (.int 2))) (.lit (.int 7))) .nil)) (.var 1))) .nil
def F__law_taken_2a_0 : Sms := .cons (.setI (.var 0) (.lit (.int 2)) (.bin .mod (.bi .int (.cons (.bin .add (.bin .mul (.sub (.var 0) (.lit (.int 2))) (.lit (.int 48271))) (.lit (.int 11))) .nil)) (.lit (.int 2147483647)))) F__law_taken_2a_1
def F__law_taken_5a_0 : Sms := .cons (.setI (.var 0) (.lit (.int 3)) (.bin .fdiv (.var 2) (.var 1))) .nil
def F__law_taken_6 : Sms := .cons (.ret (.bin .mod (.bi .int (.cons (.var 2) .nil)) (.var 1))) .nil
def F__law_taken_5 : Sms := .cons (.if_ (.cmp .ge (.var 2) (.bin .pow (.lit (.int 10)) (.lit (.int 18)))) F__law_taken_5a_0 .nil) F__law_taken_6
def F__law_taken_4 : Sms := .cons (.setI (.var 0) (.lit (.int 2)) (.bin .mod (.bi .int (.cons (.bin .add (.bin .add (.bin .mul (.sub (.var 0) (.lit (.int 2))) (.lit (.int 48271))) (.var 2)) (.lit (.int 11))) .nil)) (.lit (.int 2147483647)))) F__law_taken_5
def F__law_taken_3 : Sms := .cons (.asg (.nm 2) (.sub (.sub (.var 0) (.lit (.int 0))) (.bin .sub (.sub (.var 0) (.lit (.int 1))) (.lit (.int 1))))) F__law_taken_4
def F__law_taken_2 : Sms := .cons (.if_ (.cmp .gt (.sub (.var 0) (.lit (.int 1))) (.bi .len (.cons (.sub (.var 0) (.lit (.int 0))) .nil))) F__law_taken_2a_0 .nil) F__law_taken_3
def F__law_taken_1 : Sms := .cons (.setI (.var 0) (.lit (.int 1)) (.bin .add (.sub (.var 0) (.lit (.int 1))) (.lit (.int 1)))) F__law_taken_2
def F__law_taken_0 : Sms := .cons (.if_ (.cmp .gt (.sub (.var 0) (.lit (.int 3))) (.lit (.int 0))) F__law_taken_0a_0 .nil) F__law_taken_1
def F__law_taken : Fn := ⟨2, ["row", "many", "cell", "found"], [], F__law_taken_0⟩
def F__law_pick_0 : Sms := .cons (.ret (.sub (.var 1) (.call "_law_taken" (.cons (.var 0) (.cons (.bi .len (.cons (.var 1) .nil)) .nil))))) .nil
def F__law_pick : Fn := ⟨2, ["row", "some"], [], F__law_pick_0⟩
def F__law_alike_0a_0a_0 : Sms := .cons (.ret (.lit (.bl false))) .nil
def F__law_alike_0a_1a_0 : Sms := .cons (.ret (.lit (.bl false))) .nil
def F__law_alike_0a_2 : Sms := .cons (.ret (.cmp .eq (.fr (.comp (.var 2) (.nm 2) (.range (.cons (.bi .len (.cons (.var 1) .nil)) .nil)) (.som (.nt (.call "_law_alike" (.cons (.sub (.var 0) (.var 2)) (.cons (.sub (.var 1) (.var 2)) .nil))))) [2])) (.fr (.disp .nil)))) .nil
def F__law_alike_0a_1 : Sms := .cons (.if_ (.cmp .ne (.bi .len (.cons (.var 0) .nil)) (.bi .len (.cons (.var 1) .nil))) F__law_alike_0a_1a_0 .nil) F__law_alike_0a_2
def F__law_alike_0a_0 : Sms := .cons (.if_ (.or2 (.nt (.isi (.var 0) [.tuple, .list])) (.cmp .ne (.isi (.var 0) [.list]) (.isi (.var 1) [.list]))) F__law_alike_0a_0a_0 .nil) F__law_alike_0a_1
def F__law_alike_1a_0a_0 : Sms := .cons (.ret (.lit (.bl false))) .nil
def F__law_alike_1a_1 : Sms := .cons (.ret (.cmp .eq (.fr (.comp (.var 3) (.nm 3) (.it (.var 1)) (.som (.nt (.call "_law_alike" (.cons (.sub (.var 0) (.var 3)) (.cons (.sub (.var 1) (.var 3)) .nil))))) [3])) (.fr (.disp .nil)))) .nil
def F__law_alike_1a_0 : Sms := .cons (.if_ (.or2 (.nt (.isi (.var 0) [.dict])) (.cmp .ne (.fr (.ofIt (.it (.var 0)))) (.fr (.ofIt (.it (.var 1)))))) F__law_alike_1a_0a_0 .nil) F__law_alike_1a_1
def F__law_alike_2a_0 : Sms := .cons (.ret (.and2 (.cmp .eq (.var 0) (.var 1)) (.cmp .eq (.isi (.var 0) [.str]) (.isi (.var 1) [.str])))) .nil
def F__law_alike_3 : Sms := .cons (.ret (.and2 (.isi (.var 0) [.int]) (.and2 (.cmp .eq (.isi (.var 0) [.bool]) (.isi (.var 1) [.bool])) (.cmp .eq (.var 0) (.var 1))))) .nil
def F__law_alike_2 : Sms := .cons (.if_ (.or2 (.cmp .is_ (.var 1) (.lit .non)) (.isi (.var 1) [.str])) F__law_alike_2a_0 .nil) F__law_alike_3
def F__law_alike_1 : Sms := .cons (.if_ (.isi (.var 1) [.dict]) F__law_alike_1a_0 .nil) F__law_alike_2
def F__law_alike_0 : Sms := .cons (.if_ (.isi (.var 1) [.tuple, .list]) F__law_alike_0a_0 .nil) F__law_alike_1
def F__law_alike : Fn := ⟨2, ["found", "due", "k", "key"], [], F__law_alike_0⟩
def F__law_house_1a_1 : Sms := .cons (.app (.var 1) (.tup (.cons (.var 3) (.cons (.call "_law_taken" (.cons (.var 0) (.cons (.lit (.int 4)) .nil))) (.cons (.call "_law_taken" (.cons (.var 0) (.cons (.call "_law_pick" (.cons (.var 0) (.cons (.fr (.disp (.cons (.lit (.int 4)) (.cons (.lit (.int 10)) .nil)))) .nil))) .nil))) (.cons (.call "_law_taken" (.cons (.var 0) (.cons (.lit (.int 4)) .nil))) .nil)))))) .nil
def F__law_house_1a_0 : Sms := .cons (.asg (.nm 3) (.call "_law_pick" (.cons (.var 0) (.cons (.fr (.disp (.cons (.lit (.int 0)) (.cons (.lit (.int 1)) (.cons (.lit (.int 5)) (.cons (.call "_law_taken" (.cons (.var 0) (.cons (.lit (.int 12)) .nil))) (.cons (.call "_law_taken" (.cons (.var 0) (.cons (.lit (.int 51)) .nil))) .nil))))))) .nil)))) F__law_house_1a_1
def F__law_house_2a_0 : Sms := .cons (.ret (.tup (.cons (.bin .mul (.tup (.cons (.tup (.cons (.lit (.int 50)) (.cons (.lit (.int 20)) (.cons (.lit (.int 9)) (.cons (.lit (.int 5)) .nil))))) .nil)) (.lit (.int 12))) (.cons (.call "_law_taken" (.cons (.var 0) (.cons (.lit (.int 6)) .nil))) (.cons (.lit (.int 9)) (.cons (.call "_law_taken" (.cons (.var 0) (.cons (.lit (.int 3)) .nil))) .nil)))))) .nil
def F__law_house_3 : Sms := .cons (.ret (.tup (.cons (.bi .tuple (.cons (.var 1) .nil)) (.cons (.call "_law_taken" (.cons (.var 0) (.cons (.call "_law_pick" (.cons (.var 0) (.cons (.fr (.disp (.cons (.lit (.int 4)) (.cons (.lit (.int 8)) (.cons (.lit (.int 13)) .nil))))) .nil))) .nil))) (.cons (.call "_law_taken" (.cons (.var 0) (.cons (.lit (.int 4)) .nil))) (.cons (.call "_law_taken" (.cons (.var 0) (.cons (.call "_law_pick" (.cons (.var 0) (.cons (.fr (.disp (.cons (.lit (.int 2)) (.cons (.lit (.int 4)) (.cons (.lit (.int 4)) (.cons (.lit (.int 9)) .nil)))))) .nil))) .nil))) .nil)))))) .nil
def F__law_house_2 : Sms := .cons (.if_ (.cmp .eq (.call "_law_taken" (.cons (.var 0) (.cons (.lit (.int 40)) .nil))) (.lit (.int 0))) F__law_house_2a_0 .nil) F__law_house_3
def F__law_house_1 : Sms := .cons (.for_ (.nm 2) (.range (.cons (.bin .add (.lit (.int 1)) (.call "_law_taken" (.cons (.var 0) (.cons (.call "_law_pick" (.cons (.var 0) (.cons (.fr (.disp (.cons (.lit (.int 3)) (.cons (.lit (.int 5)) (.cons (.lit (.int 5)) (.cons (.lit (.int 7)) .nil)))))) .nil))) .nil)))) .nil)) F__law_house_1a_0) F__law_house_2
def F__law_house_0 : Sms := .cons (.asg (.nm 1) (.mu (.disp .nil))) F__law_house_1
def F__law_house : Fn := ⟨1, ["row", "days", "k", "promise"], [], F__law_house_0⟩
def F__law_taken_on_0 : Sms := .cons (.ret (.ite (.cmp .gt (.sub (.sub (.sub (.var 0) (.lit (.int 0))) (.var 1)) (.lit (.int 0))) (.lit (.int 0))) (.bin .add (.sub (.sub (.sub (.var 0) (.lit (.int 0))) (.var 1)) (.lit (.int 0))) (.sub (.var 0) (.lit (.int 2)))) (.lit (.int 0)))) .nil
def F__law_taken_on : Fn := ⟨2, ["told", "day"], [], F__law_taken_on_0⟩
def F__law_melt_0 : Sms := .cons (.ret (.bin .add (.sub (.sub (.sub (.var 0) (.lit (.int 0))) (.var 1)) (.lit (.int 1))) (.bin .mul (.var 2) (.bi .max (.cons (.lit (.int 0)) (.cons (.bin .sub (.sub (.sub (.sub (.var 0) (.lit (.int 0))) (.var 1)) (.lit (.int 2))) (.var 3)) .nil)))))) .nil
def F__law_melt : Fn := ⟨4, ["told", "day", "degrees", "sacks"], [], F__law_melt_0⟩
def F__law_last_0 : Sms := .cons (.ret (.bi .max (.cons (.bin .add (.fr (.disp (.cons (.neg (.lit (.int 1))) .nil))) (.fr (.comp (.var 1) (.nm 1) (.range (.cons (.bi .len (.cons (.sub (.var 0) (.lit (.int 0))) .nil)) .nil)) (.som (.cmp .gt (.sub (.sub (.sub (.var 0) (.lit (.int 0))) (.var 1)) (.lit (.int 0))) (.lit (.int 0)))) [1]))) .nil))) .nil
def F__law_last : Fn := ⟨1, ["told", "day"], [], F__law_last_0⟩
def F__law_with_1a_0 : Sms := .cons (.ret (.var 7)) .nil
def F__law_with_2 : Sms := .cons (.ret (.bin .add (.bin .add (.var 7) (.call "_law_melt" (.cons (.var 0) (.cons (.var 1) (.cons (.var 4) (.cons (.var 5) .nil)))))) (.call "_law_need" (.cons (.var 0) (.cons (.bin .add (.var 1) (.lit (.int 1))) (.cons (.bin .sub (.var 2) (.var 5)) (.cons (.bin .sub (.var 3) (.var 4)) (.cons (.var 6) .nil)))))))) .nil
def F__law_with_1 : Sms := .cons (.if_ (.cmp .eq (.var 1) (.call "_law_last" (.cons (.var 0) .nil))) F__law_with_1a_0 .nil) F__law_with_2
def F__law_with_0 : Sms := .cons (.asg (.nm 7) (.call "_law_taken_on" (.cons (.var 0) (.cons (.var 1) .nil)))) F__law_with_1
def F__law_with : Fn := ⟨7, ["told", "day", "straw", "warmth", "degrees", "sacks", "known", "own"], [], F__law_with_0⟩
def F__law_least_0 : Sms := .cons (.ret (.bi .min (.cons (.fr (.comp (.call "_law_with" (.cons (.var 0) (.cons (.var 1) (.cons (.var 2) (.cons (.var 3) (.cons (.var 4) (.cons (.var 6) (.cons (.var 5) .nil)))))))) (.nm 6) (.range (.cons (.bin .add (.var 2) (.lit (.int 1))) .nil)) .non [6])) .nil))) .nil
def F__law_least : Fn := ⟨6, ["told", "day", "straw", "warmth", "degrees", "known", "sacks"], [], F__law_least_0⟩
def F__law_degrees_0 : Sms := .cons (.ret (.fr (.ofIt (.range (.cons (.bin .add (.bi .min (.cons (.sub (.sub (.sub (.var 0) (.lit (.int 0))) (.var 1)) (.lit (.int 3))) (.cons (.var 2) .nil))) (.lit (.int 1))) .nil))))) .nil
def F__law_degrees : Fn := ⟨3, ["told", "day", "warmth"], [], F__law_degrees_0⟩
def F__law_need_0a_0 : Sms := .cons (.ret (.lit (.int 0))) .nil
def F__law_need_2a_0 : Sms := .cons (.setI (.var 4) (.var 5) (.bi .max (.cons (.fr (.comp (.call "_law_least" (.cons (.var 0) (.cons (.var 1) (.cons (.var 2) (.cons (.var 3) (.cons (.var 6) (.cons (.var 4) .nil))))))) (.nm 6) (.it (.call "_law_degrees" (.cons (.var 0) (.cons (.var 1) (.cons (.var 3) .nil))))) .non [6])) .nil))) .nil
def F__law_need_3 : Sms := .cons (.ret (.sub (.var 4) (.var 5))) .nil
def F__law_need_2 : Sms := .cons (.if_ (.cmp .notIn (.var 5) (.var 4)) F__law_need_2a_0 .nil) F__law_need_3
def F__law_need_1 : Sms := .cons (.asg (.nm 5) (.tup (.cons (.var 1) (.cons (.var 2) (.cons (.var 3) .nil))))) F__law_need_2
def F__law_need_0 : Sms := .cons (.if_ (.cmp .gt (.var 1) (.call "_law_last" (.cons (.var 0) .nil))) F__law_need_0a_0 .nil) F__law_need_1
def F__law_need : Fn := ⟨5, ["told", "day", "straw", "warmth", "known", "key", "one"], [], F__law_need_0⟩
def F__law_whole_0 : Sms := .cons (.ret (.call "_law_need" (.cons (.var 0) (.cons (.lit (.int 0)) (.cons (.sub (.var 0) (.lit (.int 3))) (.cons (.sub (.var 0) (.lit (.int 1))) (.cons .mud .nil))))))) .nil
def F__law_whole : Fn := ⟨1, ["told"], [], F__law_whole_0⟩
def F__law_first_0a_0a_0 : Sms := .cons (.ret (.var 2)) .nil
def F__law_first_0a_0 : Sms := .cons (.if_ (.cmp .le (.call "_law_whole" (.cons (.var 3) .nil)) (.var 1)) F__law_first_0a_0a_0 .nil) .nil
def F__law_first_1 : Sms := .cons (.ret (.lit .non)) .nil
def F__law_first_0 : Sms := .cons (.for_ (.tp (.cons (.nm 2) (.cons (.nm 3) .nil))) (.it (.var 0)) F__law_first_0a_0) F__law_first_1
def F__law_first : Fn := ⟨2, ["some", "ice", "number", "told"], [], F__law_first_0⟩
def F__law_with_promise_1 : Sms := .cons (.ret (.bin .add (.tup (.cons (.bin .add (.bin .add (.cut (.var 3) .non (.som (.var 1))) (.tup (.cons (.bin .add (.tup (.cons (.var 2) .nil)) (.cut (.sub (.var 3) (.var 1)) (.som (.lit (.int 1))) .non)) .nil))) (.cut (.var 3) (.som (.bin .add (.var 1) (.lit (.int 1)))) .non)) .nil)) (.cut (.var 0) (.som (.lit (.int 1))) .non))) .nil
def F__law_with_promise_0 : Sms := .cons (.asg (.nm 3) (.sub (.var 0) (.lit (.int 0)))) F__law_with_promise_1
def F__law_with_promise : Fn := ⟨3, ["told", "day", "promise", "days"], [], F__law_with_promise_0⟩
def F_law_5a_0 : Sms := .cons (.ret (.lit (.bl false))) .nil
def F_law_6a_0 : Sms := .cons (.ret (.lit (.bl false))) .nil
def F_law_7a_0 : Sms := .cons (.ret (.lit (.bl false))) .nil
def F_law_9a_1 : Sms := .cons (.asg (.nm 7) (.ite (.cmp .le (.call "_law_whole" (.cons (.bin .add (.tup (.cons (.var 14) .nil)) (.cut (.var 2) (.som (.lit (.int 1))) .non)) .nil)) (.var 5)) (.var 8) (.var 7))) .nil
def F_law_9a_0 : Sms := .cons (.asg (.nm 14) (.bin .add (.cut (.sub (.var 2) (.lit (.int 0))) .non (.som (.var 8))) (.bi .tuple (.cons (.fr (.comp (.bin .add (.tup (.cons (.lit (.int 0)) .nil)) (.cut (.var 18) (.som (.lit (.int 1))) .non)) (.nm 18) (.it (.cut (.sub (.var 2) (.lit (.int 0))) (.som (.var 8)) .non)) .non [18])) .nil)))) F_law_9a_1
def F_law_10a_0 : Sms := .cons (.ret (.lit (.bl false))) .nil
def F_law_12a_1a_0 : Sms := .cons (.ret (.lit (.bl false))) .nil
def F_law_12a_1 : Sms := .cons (.if_ (.or2 (.nt (.call "_law_alike" (.cons (.var 15) (.cons (.call "_law_whole" (.cons (.var 10) .nil)) .nil)))) (.or2 (.cmp .gt (.var 15) (.var 4)) (.cmp .ne (.call "whole_need" (.cons (.var 3) .nil)) (.var 4)))) F_law_12a_1a_0 .nil) .nil
def F_law_12a_0 : Sms := .cons (.asg (.nm 15) (.call "whole_need" (.cons (.new "House" (.cons (.sub (.var 10) (.lit (.int 0))) (.cons (.sub (.var 10) (.lit (.int 1))) (.cons (.sub (.var 10) (.lit (.int 2))) (.cons (.sub (.var 10) (.lit (.int 3))) .nil))))) .nil))) F_law_12a_1
def F_law_14a_0a_0 : Sms := .cons (.ret (.lit (.bl false))) .nil
def F_law_14a_0 : Sms := .cons (.if_ (.cmp .ne (.bi .repr (.cons (.lam "_law_refused" (.calv 12 (.cons (.var 3) (.cons (.var 11) .nil)))) .nil)) (.bi .repr (.cons (.tup (.cons (.lit (.str (Str.ofString "ice"))) (.cons (.var 11) .nil))) .nil))) F_law_14a_0a_0 .nil) .nil
def F_law_16a_0 : Sms := .cons (.ret (.lit (.bl false))) .nil
def F_law_17 : Sms := .cons (.ret (.cmp .eq (.bi .repr (.cons (.lam "_law_refused" (.call "most_promise" (.cons (.var 3) (.cons (.var 5) (.cons (.var 13) .nil))))) .nil)) (.bi .repr (.cons (.tup (.cons (.lit (.str (Str.ofString "day"))) (.cons (.var 13) .nil))) .nil)))) .nil
def F_law_16 : Sms := .cons (.if_ (.cmp .ne (.bi .repr (.cons (.lam "_law_refused" (.call "most_promise" (.cons (.var 3) (.cons (.var 11) (.cons (.var 13) .nil))))) .nil)) (.bi .repr (.cons (.tup (.cons (.lit (.str (Str.ofString "ice"))) (.cons (.var 11) .nil))) .nil))) F_law_16a_0 .nil) F_law_17
def F_law_15 : Sms := .cons (.asg (.nm 13) (.call "_law_pick" (.cons (.var 1) (.cons (.fr (.disp (.cons (.neg (.lit (.int 1))) (.cons (.bi .len (.cons (.sub (.var 2) (.lit (.int 0))) .nil)) (.cons (.lit .non) (.cons (.lit (.bl true)) .nil)))))) .nil)))) F_law_16
def F_law_14 : Sms := .cons (.for_ (.nm 12) (.it (.fr (.disp (.cons (.glb "least_straw") (.cons (.glb "most_warmth") (.cons (.glb "last_kept") .nil)))))) F_law_14a_0) F_law_15
def F_law_13 : Sms := .cons (.asg (.nm 11) (.call "_law_pick" (.cons (.var 1) (.cons (.fr (.disp (.cons (.neg (.lit (.int 1))) (.cons (.lit (.int 100001)) (.cons (.lit .non) (.cons (.lit (.bl true)) .nil)))))) .nil)))) F_law_14
def F_law_12 : Sms := .cons (.for_ (.nm 10) (.it (.var 9)) F_law_12a_0) F_law_13
def F_law_11 : Sms := .cons (.asg (.nm 9) (.fr (.disp (.cons (.bin .add (.cut (.var 2) .non (.som (.lit (.int 3)))) (.tup (.cons (.bi .min (.cons (.lit (.int 8)) (.cons (.bin .add (.sub (.var 2) (.lit (.int 3))) (.lit (.int 1))) .nil))) .nil))) (.cons (.bin .add (.tup (.cons (.sub (.var 2) (.lit (.int 0))) (.cons (.bi .max (.cons (.lit (.int 0)) (.cons (.bin .sub (.sub (.var 2) (.lit (.int 1))) (.lit (.int 1))) .nil))) .nil))) (.cut (.var 2) (.som (.lit (.int 2))) .non)) (.cons (.call "_law_with_promise" (.cons (.var 2) (.cons (.var 6) (.cons (.bin .fdiv (.sub (.sub (.sub (.var 2) (.lit (.int 0))) (.var 6)) (.lit (.int 0))) (.lit (.int 2))) .nil)))) .nil)))))) F_law_12
def F_law_10 : Sms := .cons (.if_ (.nt (.call "_law_alike" (.cons (.call "last_kept" (.cons (.var 3) (.cons (.var 5) .nil))) (.cons (.var 7) .nil)))) F_law_10a_0 .nil) F_law_11
def F_law_9 : Sms := .cons (.for_ (.nm 8) (.range (.cons (.lit (.int 1)) (.cons (.bin .add (.bi .len (.cons (.sub (.var 2) (.lit (.int 0))) .nil)) (.lit (.int 1))) .nil))) F_law_9a_0) F_law_10
def F_law_8 : Sms := .cons (.asg (.nm 7) (.lit (.int 0))) F_law_9
def F_law_7 : Sms := .cons (.if_ (.nt (.call "_law_alike" (.cons (.call "most_promise" (.cons (.var 3) (.cons (.var 5) (.cons (.var 6) .nil)))) (.cons (.call "_law_first" (.cons (.fr (.comp (.tup (.cons (.var 18) (.cons (.call "_law_with_promise" (.cons (.var 2) (.cons (.var 6) (.cons (.var 18) .nil)))) .nil))) (.nm 18) (.range (.cons (.lit (.int 50)) (.cons (.neg (.lit (.int 1))) (.cons (.neg (.lit (.int 1))) .nil)))) .non [18])) (.cons (.var 5) .nil))) .nil)))) F_law_7a_0 .nil) F_law_8
def F_law_6 : Sms := .cons (.if_ (.nt (.call "_law_alike" (.cons (.call "most_warmth" (.cons (.var 3) (.cons (.var 5) .nil))) (.cons (.call "_law_first" (.cons (.fr (.comp (.tup (.cons (.var 17) (.cons (.bin .add (.tup (.cons (.sub (.var 2) (.lit (.int 0))) (.cons (.var 17) .nil))) (.cut (.var 2) (.som (.lit (.int 2))) .non)) .nil))) (.nm 17) (.range (.cons (.lit (.int 12)) (.cons (.neg (.lit (.int 1))) (.cons (.neg (.lit (.int 1))) .nil)))) .non [17])) (.cons (.var 5) .nil))) .nil)))) F_law_6a_0 .nil) F_law_7
def F_law_5 : Sms := .cons (.if_ (.nt (.call "_law_alike" (.cons (.call "least_straw" (.cons (.var 3) (.cons (.var 5) .nil))) (.cons (.call "_law_first" (.cons (.fr (.comp (.tup (.cons (.var 16) (.cons (.bin .add (.cut (.var 2) .non (.som (.lit (.int 3)))) (.tup (.cons (.var 16) .nil))) .nil))) (.nm 16) (.range (.cons (.lit (.int 9)) .nil)) .non [16])) (.cons (.var 5) .nil))) .nil)))) F_law_5a_0 .nil) F_law_6
def F_law_4 : Sms := .cons (.par [5, 6] (.cons (.call "_law_pick" (.cons (.var 1) (.cons (.fr (.disp (.cons (.var 4) (.cons (.bi .max (.cons (.lit (.int 0)) (.cons (.bin .sub (.var 4) (.lit (.int 1))) .nil))) (.cons (.bin .add (.var 4) (.call "_law_taken" (.cons (.var 1) (.cons (.lit (.int 20)) .nil)))) (.cons (.call "_law_taken" (.cons (.var 1) (.cons (.bin .add (.var 4) (.lit (.int 1))) .nil))) .nil)))))) .nil))) (.cons (.call "_law_taken" (.cons (.var 1) (.cons (.bi .len (.cons (.sub (.var 2) (.lit (.int 0))) .nil)) .nil))) .nil))) F_law_5
def F_law_3 : Sms := .cons (.par [3, 4] (.cons (.new "House" (.cons (.sub (.var 2) (.lit (.int 0))) (.cons (.sub (.var 2) (.lit (.int 1))) (.cons (.sub (.var 2) (.lit (.int 2))) (.cons (.sub (.var 2) (.lit (.int 3))) .nil))))) (.cons (.call "_law_whole" (.cons (.var 2) .nil)) .nil))) F_law_4
def F_law_2 : Sms := .cons (.asg (.nm 2) (.bin .add (.tup (.cons (.cut (.sub (.var 2) (.lit (.int 0))) .non (.som (.lit (.int 5)))) .nil)) (.cut (.var 2) (.som (.lit (.int 1))) .non))) F_law_3
def F_law_1 : Sms := .cons (.asg (.nm 2) (.call "_law_house" (.cons (.var 1) .nil))) F_law_2
def F_law_0 : Sms := .cons (.asg (.nm 1) (.mu (.disp (.cons (.var 0) (.cons (.lit (.int 0)) (.cons (.lit (.int 1212)) (.cons (.lit (.int 0)) .nil))))))) F_law_1
def F_law : Fn := ⟨1, ["script", "row", "told", "house", "least", "ice", "day", "kept", "many", "easier", "other", "wrong", "ask", "odd", "days", "need", "straw", "warmth", "one"], [], F_law_0⟩
def fns : List (String × Fn) := [("is_integer", F_is_integer), ("is_within", F_is_within), ("is_row", F_is_row), ("is_tuple_of", F_is_tuple_of), ("is_day", F_is_day), ("check_days", F_check_days), ("check_numbers", F_check_numbers), ("House.__init__", F_House___init__), ("House.__eq__", F_House___eq__), ("House.parts", F_House_parts), ("check_ice", F_check_ice), ("check_day", F_check_day), ("melted", F_melted), ("taken", F_taken), ("Needs.__init__", F_Needs___init__), ("Needs.of", F_Needs_of), ("Needs.degrees", F_Needs_degrees), ("Needs.with_sacks", F_Needs_with_sacks), ("Needs.least", F_Needs_least), ("needs_of", F_needs_of), ("told_need", F_told_need), ("whole_need", F_whole_need), ("is_sure", F_is_sure), ("least_straw", F_least_straw), ("most_warmth", F_most_warmth), ("with_promise", F_with_promise), ("need_of_days", F_need_of_days), ("most_promise", F_most_promise), ("last_kept", F_last_kept), ("_law_taken", F__law_taken), ("_law_pick", F__law_pick), ("_law_alike", F__law_alike), ("_law_house", F__law_house), ("_law_taken_on", F__law_taken_on), ("_law_melt", F__law_melt), ("_law_last", F__law_last), ("_law_with", F__law_with), ("_law_least", F__law_least), ("_law_degrees", F__law_degrees), ("_law_need", F__law_need), ("_law_whole", F__law_whole), ("_law_first", F__law_first), ("_law_with_promise", F__law_with_promise)]
def cons : List (String × T) := [("MOST_DAYS", (.int 12)), ("MOST_PROMISE", (.int 50)), ("MOST_WARMTH", (.int 12)), ("MOST_DOOR", (.int 9)), ("MOST_STRAW", (.int 8)), ("MOST_ICE", (.int 100000)), ("MOSTS", (.wt [(.int 50), (.int 20), (.int 9), (.int 5)])), ("last_kept", (.fn "last_kept")), ("least_straw", (.fn "least_straw")), ("most_warmth", (.fn "most_warmth"))]
def clss : List (String × ClsR) := [("House", ⟨"House.__init__", true, ["days", "warmth", "door", "straw"], ["__eq__", "parts"]⟩), ("Needs", ⟨"Needs.__init__", false, ["days", "door", "last", "known"], ["of", "degrees", "with_sacks", "least"]⟩)]
def excs : List (String × ExcR) := [("IceError", ⟨["value"], ["IceError", "ValueError"]⟩), ("BadDays", ⟨["value"], ["BadDays", "IceError", "ValueError"]⟩), ("BadWarmth", ⟨["value"], ["BadWarmth", "IceError", "ValueError"]⟩), ("BadDoor", ⟨["value"], ["BadDoor", "IceError", "ValueError"]⟩), ("BadStraw", ⟨["value"], ["BadStraw", "IceError", "ValueError"]⟩), ("BadDay", ⟨["value"], ["BadDay", "IceError", "ValueError"]⟩), ("BadIce", ⟨["value"], ["BadIce", "IceError", "ValueError"]⟩)]
def lams : List (String × LamR) := [("_law_refused", .refused [("BadDay", (Str.ofString "day"), ["value"]), ("BadIce", (Str.ofString "ice"), ["value"])])]
def TT : Tab := ⟨fun x => fns.lookup x, fun x => cons.lookup x, fun x => clss.lookup x, fun x => excs.lookup x, fun x => lams.lookup x⟩
end K12
open Ice
def run (s : List Int) : String := match runF K12.TT 80 K12.F_law [.t (.scr s)] [] with
  | .ok (.t (.bl b)) st => s!"{b} {st.length}"
  | .ok _ _ => "other"
  | .ex e _ => "ex " ++ e.cls
  | .no => "no"
end

section
set_option Elab.async false
set_option linter.all false
set_option maxRecDepth 100000
set_option maxHeartbeats 4000000
namespace Ice
open PySem PySem.W PySem.SeqAt PyProof.Rows
theorem Ok.eq1 {α : Type} {r : R α} {v : α} {s : Store} (h : Ok r fun d st => d = v ∧ st = s) : r = .ok v s := by
  obtain ⟨d, st, e, rfl, rfl⟩ := h.eq
  exact e
theorem lt_int {a b : Int} : ltT (.int a) (.int b) = decide (a < b) := PySem.W.dataLt_int a b
theorem lex_int {a c : Int} {r t : List (Int ⊕ List Nat)} : PyProof.Rows.lexLt itemOrd (Sum.inl a :: r) (Sum.inl c :: t) = if a = c then PyProof.Rows.lexLt itemOrd r t else decide (a < c) := by
  by_cases h : a = c
  · subst h
    rw [if_pos rfl]
    exact lex_self (O := itemOrd) (Sum.inl a) r t
  · rw [if_neg h]
    exact (lex_diff (O := itemOrd) (by simpa using h)).trans rfl
theorem max2_int {a b : Int} : maxD2 (I a) (I b) = some (I (max a b)) := by
  show (if goodL [T.int a, T.int b] then some (D.t (maxT (.int a) [.int b])) else none) = _
  rw [show goodL [T.int a, T.int b] = true from rfl, if_pos rfl]
  show some (D.t (if ltT (.int a) (.int b) then T.int b else .int a)) = _
  rw [show ltT (.int a) (.int b) = decide (a < b) from lt_int]
  by_cases h : a < b
  · simp [h, Int.max_def]
    omega
  · simp [h, Int.max_def]
    omega
theorem min2_int {a b : Int} : minD2 (I a) (I b) = some (I (min a b)) := by
  show (if goodL [T.int a, T.int b] then some (D.t (minT (.int a) [.int b])) else none) = _
  rw [show goodL [T.int a, T.int b] = true from rfl, if_pos rfl]
  show some (D.t (if ltT (.int b) (.int a) then T.int b else .int a)) = _
  rw [show ltT (.int b) (.int a) = decide (b < a) from lt_int]
  by_cases h : b < a
  · simp [h, Int.min_def]
    try omega
  · simp [h, Int.min_def]
    try omega
theorem cmp_eqi {st : Store} {a b : Int} : cmpD st .eq (I a) (I b) = some (decide (a = b)) := by
  show some (decide (a = b)) = _
  rfl
theorem dataAll_int : ∀ (l : List Int), dataAll (l.map T.int) = true
  | [] => rfl
  | v :: l => by
    show (true && dataAll (l.map T.int)) = true
    rw [dataAll_int l]
    rfl
theorem good_int (l : List Int) : goodL (l.map T.int) = true := by
  have h2 : alikes (l.map T.int) = true := by
    unfold alikes
    simp only [List.all_eq_true, List.mem_map]
    rintro _ ⟨a, _, rfl⟩ _ ⟨b, _, rfl⟩
    rfl
  have h3 : PyData.depthAll (pyAll (l.map T.int)) ≤ deepest := by
    induction l with
    | nil => decide
    | cons v l ih =>
      have := ih (by unfold alikes at h2 ⊢; simp only [List.all_eq_true, List.mem_map] at h2 ⊢; rintro _ ⟨a, ha, rfl⟩ _ ⟨b, hb, rfl⟩; rfl)
      show max _ (PyData.depthAll (pyAll (l.map T.int))) ≤ deepest
      exact Nat.max_le.mpr ⟨by simp [T.py, PyData.depth, deepest], this⟩
  unfold goodL
  rw [dataAll_int, h2, decide_eq_true h3]
  simp [T.isNon]
theorem maxT_int : ∀ (l : List Int) (v : Int), maxT (.int v) (l.map T.int) = .int (l.foldl max v)
  | [], v => rfl
  | w :: l, v => by
    show (l.map T.int).foldl _ (if ltT (.int v) (.int w) then T.int w else .int v) = _
    rw [lt_int]
    have e : (if decide (v < w) = true then T.int w else .int v) = .int (max v w) := by
      by_cases h : v < w
      · simp [h]; omega
      · simp [h]; omega
    rw [e]
    exact maxT_int l (max v w)
def maxL : List Int → Int
  | [] => 0
  | v :: l => l.foldl max v
theorem foldl_max_mem : ∀ (l : List Int) (v : Int), l.foldl max v ∈ v :: l
  | [], v => by simp
  | w :: l, v => by
    have := foldl_max_mem l (max v w)
    simp only [List.foldl_cons, List.mem_cons] at this ⊢
    rcases this with h | h
    · rw [h]; omega
    · exact .inr (.inr h)
theorem maxL_mem {l : List Int} (h : l ≠ []) : maxL l ∈ l := by
  cases l with
  | nil => exact absurd rfl h
  | cons v l => exact foldl_max_mem l v
theorem max1_ints {st : Store} {d : D} {l : List Int} (h : items st d = some (l.map fun v => I v)) (hn : l ≠ []) : maxD1 st d = some (I (maxL l)) := by
  cases l with
  | nil => exact absurd rfl hn
  | cons v l =>
    unfold maxD1
    rw [h, Option.bind_some, trees_mp (fun v : Int => T.int v), Option.bind_some]
    show (if goodL ((v :: l).map T.int) then some (D.t (maxT (.int v) (l.map T.int))) else none) = _
    rw [good_int, if_pos rfl, maxT_int]
    rfl
theorem comp_h {α : Type} {k : Nat} {b : D → Store → R (Option D)} {st : Store} (xs : List α) (f g : α → D) (hl : st[k]? = some (.lst (xs.map f))) (hb : ∀ x ∈ xs, b (f x) st = .ok (some (g x)) st) (hn : xs.length ≤ 1000000) :
    compL (.hl k) b (lenI st (.hl k)) 0 [] st = .ok (xs.map g) st := by
  have e1 : lenI st (.hl k) = (xs.map f).length := by
    show (match st[k]? with
      | some (.lst xs) => xs.length
      | _ => 0) = _
    rw [hl]
  have e : ∀ (m i : Nat) (acc : List D), compL (.hl k) b m i acc st = compL (.xs (xs.map f)) b m i acc st := by
    intro m
    have hg : ∀ i, getI st i (.hl k) = getI st i (.xs (xs.map f)) := by
      intro i
      show (match st[k]? with
        | some (.lst xs) => some xs[i]?
        | _ => none) = some (xs.map f)[i]?
      rw [hl]
    induction m with
    | zero => intro i acc; unfold compL; rw [hg]
    | succ m ih =>
      intro i acc
      unfold compL
      rw [hg]
      show (match some (xs.map f)[i]? with
        | some none => R.ok acc st
        | some (some d) => (noEx (b d st)).bind fun o st => if fits acc.length then compL (.hl k) b m (i + 1) (acc ++ o.toList) st else .no
        | none => .no) = (match some (xs.map f)[i]? with
        | some none => R.ok acc st
        | some (some d) => (noEx (b d st)).bind fun o st => if fits acc.length then compL (.xs (xs.map f)) b m (i + 1) (acc ++ o.toList) st else .no
        | none => .no)
      cases hd : (xs.map f)[i]? with
      | none => rfl
      | some d =>
        have hm := List.mem_of_getElem? hd
        obtain ⟨x, hx, rfl⟩ := List.mem_map.mp hm
        simp only
        rw [hb x hx]
        simp only [noEx_ok, R.bind_ok]
        rw [ih]
  rw [e1, e, List.length_map]
  exact comp_map xs hb hn
def rpB (x : T) : Bool := x.isSeq && x.data && x.py.showable && decide (x.py.depth ≤ deepest) && decide (x.py.shown.length ≤ 1000000)
theorem repr_eq {x : T} (h : rpB x = true) : ∃ s : Str, reprD (.t x) = some (.t (.str s)) ∧ ∀ st, cmpD st .eq (.t (.str s)) (.t (.str s)) = some true ∧ cmpD st .ne (.t (.str s)) (.t (.str s)) = some false := by
  refine ⟨x.py.shown, ?_, fun st => ?_⟩
  · show (if rpB x then some (D.t (.str x.py.shown)) else none) = _
    rw [h]
    rfl
  · have e : eqT (.str x.py.shown) (.str x.py.shown) = true := PySem.W.eqv_refl_alike _ rfl
    have hd : (T.data (.str x.py.shown) && T.data (.str x.py.shown) && decide ((T.str x.py.shown).py.depth ≤ deepest)) = true := rfl
    constructor
    · show (if (T.data (.str x.py.shown) && T.data (.str x.py.shown) && decide ((T.str x.py.shown).py.depth ≤ deepest)) = true then some (eqT (.str x.py.shown) (.str x.py.shown)) else none) = _
      rw [if_pos hd, e]
    · show (if (T.data (.str x.py.shown) && T.data (.str x.py.shown) && decide ((T.str x.py.shown).py.depth ≤ deepest)) = true then some (!eqT (.str x.py.shown) (.str x.py.shown)) else none) = _
      rw [if_pos hd, e]
      rfl
end Ice
namespace Pl
open PySem Ice PySem.W PySem.SeqAt PyProof.Rows
section
variable {ns : List Int} {i s r v : Int}
def Sq (x : T) (xs : List T) : Prop := x = .lst xs ∨ x = .tup xs
theorem ix_of {n : Nat} {i : Int} (h0 : 0 ≤ i) (h1 : i < n) : place n i = some i.toNat := by
  unfold place L2.ixN
  rw [if_pos h0, if_pos h1]
theorem items_sq {x : T} {xs : List T} (h : Sq x xs) (st : Store) : items st (.t x) = some (xs.map .t) := by rcases h with rfl | rfl <;> rfl
@[simp] theorem items_lst {xs : List T} {st : Store} : items st (.t (.lst xs)) = some (xs.map .t) := rfl
@[simp] theorem items_tup {xs : List T} {st : Store} : items st (.t (.tup xs)) = some (xs.map .t) := rfl
@[simp] theorem litems_lst {xs : List T} {st : Store} : litems st (.t (.lst xs)) = some (xs.map .t) := rfl
theorem len_sq {x : T} {xs : List T} (h : Sq x xs) (st : Store) : lenD st (.t x) = some (I xs.length) := by
  rcases h with rfl | rfl <;> simp [lenD]
theorem it_sq {x : T} {xs : List T} (h : Sq x xs) (st : Store) : itI st (.t x) = some (.xs (xs.map .t)) := by rcases h with rfl | rfl <;> rfl
theorem sub_sq {x : T} {xs : List T} (h : Sq x xs) (st : Store) {i : Int} (h0 : 0 ≤ i) (h1 : i < xs.length) : subD st (.t x) (.t (.int i)) = some (.t (xs.getD i.toNat .non)) := by
  have hl : i.toNat < xs.length := by omega
  have e : subD st (.t x) (.t (.int i)) = (items st (.t x)).bind fun xs => (place xs.length i).bind fun j => xs[j]? := by rcases h with rfl | rfl <;> rfl
  rw [e, items_sq h, Option.bind_some, List.length_map, ix_of h0 h1, Option.bind_some]
  simp [hl]
def RO (ns : List Int) (i s r : Int) : O := .lst [.t (.scr ns), I i, I s, I r]
theorem ro_0 : subD [RO ns i s r] (.h 0) (.t (.int 0)) = some (.t (.scr ns)) := rfl
theorem ro_1 : subD [RO ns i s r] (.h 0) (.t (.int 1)) = some (I i) := rfl
theorem ro_2 : subD [RO ns i s r] (.h 0) (.t (.int 2)) = some (I s) := rfl
theorem ro_3 : subD [RO ns i s r] (.h 0) (.t (.int 3)) = some (I r) := rfl
theorem ro_s1 : setD [RO ns i s r] (.h 0) (.t (.int 1)) (.t (.int v)) = some [RO ns v s r] := rfl
theorem ro_s2 : setD [RO ns i s r] (.h 0) (.t (.int 2)) (.t (.int v)) = some [RO ns i v r] := rfl
theorem ro_s3 : setD [RO ns i s r] (.h 0) (.t (.int 3)) (.t (.int v)) = some [RO ns i s v] := rfl
theorem scr_sub {st : Store} (h0 : 0 ≤ i) (h1 : i < ns.length) : subD st (.t (.scr ns)) (.t (.int i)) = some (I (ns.getD i.toNat 0)) := by
  show ((ns.map fun n => D.t (.int n)) |> fun xs => (place xs.length i).bind fun j => xs[j]?) = _
  have hl : i.toNat < ns.length := by omega
  simp only [List.length_map]
  rw [ix_of h0 h1, Option.bind_some]
  simp [hl]
theorem scr_len {st : Store} : lenD st (.t (.scr ns)) = some (I ns.length) := by
  show ((items st (.t (.scr ns))).map fun xs => D.t (.int (xs.length : Int))) = _
  show some (D.t (.int ((ns.map fun n => D.t (.int n)).length : Int))) = _
  rw [List.length_map]
theorem int_int {x : Int} : intD (I x) = some (I x) := rfl
def TQ (ns : List Int) (m : Int) (d : D) (st : Store) : Prop := ∃ v i' s' r', d = I v ∧ 0 ≤ v ∧ v < m ∧ 0 ≤ i' ∧ st = [RO ns i' s' r']
def Row (ns : List Int) (o : O) : Prop := ∃ i s r, o = RO ns i s r ∧ 0 ≤ i
def exOf (c : String) (x : T) : Exn := ⟨c, [("value", x)]⟩
def W (w : String) (x : T) : T := .tup [.str (Str.ofString w), x]
def Same (l : List Nat) (ρ ρ' : Ice.Env) : Prop := ρ'.length = ρ.length ∧ ∀ i, i ∉ l → ρ'[i]? = ρ[i]?
theorem Same.refl {l : List Nat} {ρ : Ice.Env} : Same l ρ ρ := ⟨rfl, fun _ _ => rfl⟩
theorem Same.set {l : List Nat} {ρ ρ' : Ice.Env} {i : Nat} {v : Option D} (h : Same l ρ ρ') (hi : i ∈ l) : Same l ρ (ρ'.set i v) := by
  refine ⟨by rw [List.length_set]; exact h.1, fun j hj => ?_⟩
  rw [List.getElem?_set_ne (by rintro rfl; exact hj hi)]
  exact h.2 j hj
theorem Same.trans {l : List Nat} {ρ ρ' ρ'' : Ice.Env} (h : Same l ρ ρ') (h' : Same l ρ' ρ'') : Same l ρ ρ'' := ⟨h'.1.trans h.1, fun i hi => (h'.2 i hi).trans (h.2 i hi)⟩
theorem Same.mono {l l' : List Nat} {ρ ρ' : Ice.Env} (h : Same l ρ ρ') (hl : ∀ i ∈ l, i ∈ l') : Same l' ρ ρ' := ⟨h.1, fun i hi => h.2 i fun m => hi (hl i m)⟩
theorem minT_head {x : T} : ∀ (l : List T), (∀ y ∈ l, ltT y x = false) → minT x l = x
  | [], _ => rfl
  | y :: l, h => by
    show l.foldl _ (if ltT y x then y else x) = x
    rw [h y List.mem_cons_self]
    exact minT_head l fun z hz => h z (List.mem_cons_of_mem _ hz)
end
end Pl
end

section
set_option Elab.async false
set_option linter.all false
set_option maxRecDepth 100000
set_option maxHeartbeats 4000000
/-! steps of the interpreter, each by what its parts give -/
namespace Pl
open PySem Ice
section
variable {P : Tab} {cf : CallF} {ρ ρ' : Ice.Env} {st st' st'' : Store} {a b c e : Ex} {x y z d : D}
theorem ve (i : Nat) (h : ρ[i]? = some (some d)) : evalE P cf (.var i) ρ st = .ok d st := by simp only [evalE, h]
theorem e_and_t (ha : evalE P cf a ρ st = .ok (B true) st') : evalE P cf (.and2 a b) ρ st = evalE P cf b ρ st' := by rw [evalE, ha]; rfl
theorem e_and_f (ha : evalE P cf a ρ st = .ok (B false) st') : evalE P cf (.and2 a b) ρ st = .ok (B false) st' := by rw [evalE, ha]; rfl
theorem e_or_t (ha : evalE P cf a ρ st = .ok (B true) st') : evalE P cf (.or2 a b) ρ st = .ok (B true) st' := by rw [evalE, ha]; rfl
theorem e_or_f (ha : evalE P cf a ρ st = .ok (B false) st') : evalE P cf (.or2 a b) ρ st = evalE P cf b ρ st' := by rw [evalE, ha]; rfl
theorem e_nt {k : Bool} (ha : evalE P cf a ρ st = .ok (B k) st') : evalE P cf (.nt a) ρ st = .ok (B (!k)) st' := by rw [evalE, ha]; rfl
theorem e_cmp {o : COp} {k : Bool} (ha : evalE P cf a ρ st = .ok x st') (hb : evalE P cf b ρ st' = .ok y st'') (h : cmpD st'' o x y = some k) : evalE P cf (.cmp o a b) ρ st = .ok (B k) st'' := by rw [evalE, ha, R.bind_ok, hb, R.bind_ok, h]; rfl
theorem e_sub (ha : evalE P cf a ρ st = .ok x st') (hb : evalE P cf b ρ st' = .ok y st'') (h : subD st'' x y = some z) : evalE P cf (.sub a b) ρ st = .ok z st'' := by rw [evalE, ha, R.bind_ok, hb, R.bind_ok, h]; rfl
theorem e_bin {o : BOp} {t : T} (ha : evalE P cf a ρ st = .ok x st') (hb : evalE P cf b ρ st' = .ok y st'') (h : binD st'' o x y = some t) : evalE P cf (.bin o a b) ρ st = .ok (.t t) st'' := by rw [evalE, ha, R.bind_ok, hb, R.bind_ok, h]; rfl
theorem e_bi {o : Bi} (ha : evalE P cf a ρ st = .ok x st') (h : biD o [x] st' = some z) : evalE P cf (.bi o (.cons a .nil)) ρ st = .ok z st' := by rw [evalE, evalEs, ha, R.bind_ok, evalEs, R.bind_ok, R.bind_ok, h]; rfl
theorem e_bi2 {o : Bi} (ha : evalE P cf a ρ st = .ok x st') (hb : evalE P cf b ρ st' = .ok y st'') (h : biD o [x, y] st'' = some z) : evalE P cf (.bi o (.cons a (.cons b .nil))) ρ st = .ok z st'' := by rw [evalE, evalEs, ha, R.bind_ok, evalEs, hb, R.bind_ok, evalEs, R.bind_ok, R.bind_ok, R.bind_ok, h]; rfl
theorem e_call1 {f : String} (ha : evalE P cf a ρ st = .ok x st') : evalE P cf (.call f (.cons a .nil)) ρ st = callD P cf f [x] st' := by rw [evalE, evalEs, ha, R.bind_ok, evalEs, R.bind_ok, R.bind_ok]
theorem e_call2 {f : String} (ha : evalE P cf a ρ st = .ok x st') (hb : evalE P cf b ρ st' = .ok y st'') : evalE P cf (.call f (.cons a (.cons b .nil))) ρ st = callD P cf f [x, y] st'' := by rw [evalE, evalEs, ha, R.bind_ok, evalEs, hb, R.bind_ok, evalEs, R.bind_ok, R.bind_ok, R.bind_ok]
theorem e_call3 {f : String} {st3 : Store} (ha : evalE P cf a ρ st = .ok x st') (hb : evalE P cf b ρ st' = .ok y st'') (hc : evalE P cf c ρ st'' = .ok z st3) : evalE P cf (.call f (.cons a (.cons b (.cons c .nil)))) ρ st = callD P cf f [x, y, z] st3 := by rw [evalE, evalEs, ha, R.bind_ok, evalEs, hb, R.bind_ok, evalEs, hc, R.bind_ok, evalEs, R.bind_ok, R.bind_ok, R.bind_ok, R.bind_ok]
theorem e_call4 {f : String} {u : D} {st3 st4 : Store} (ha : evalE P cf a ρ st = .ok x st') (hb : evalE P cf b ρ st' = .ok y st'') (hc : evalE P cf c ρ st'' = .ok z st3) (he : evalE P cf e ρ st3 = .ok u st4) : evalE P cf (.call f (.cons a (.cons b (.cons c (.cons e .nil))))) ρ st = callD P cf f [x, y, z, u] st4 := by rw [evalE, evalEs, ha, R.bind_ok, evalEs, hb, R.bind_ok, evalEs, hc, R.bind_ok, evalEs, he, R.bind_ok, evalEs, R.bind_ok, R.bind_ok, R.bind_ok, R.bind_ok, R.bind_ok]
theorem e_tup2 {t u : T} (ha : evalE P cf a ρ st = .ok (.t t) st') (hb : evalE P cf b ρ st' = .ok (.t u) st'') : evalE P cf (.tup (.cons a (.cons b .nil))) ρ st = .ok (.t (.tup [t, u])) st'' := by
  rw [evalE, evalEs, ha, R.bind_ok, evalEs, hb, R.bind_ok, evalEs, R.bind_ok, R.bind_ok, R.bind_ok]
  rfl
theorem s_cons {s : Sm} {r : Sms} (h : execS P cf s ρ st = .nx ρ' st') : execSs P cf (.cons s r) ρ st = execSs P cf r ρ' st' := by rw [execSs, h]; rfl
theorem s_ret (ha : evalE P cf a ρ st = .ok x st') {r : Sms} : execSs P cf (.cons (.ret a) r) ρ st = .rt x st' := by rw [execSs, execS, ha]; rfl
theorem x_if_t {p q : Sms} (ha : evalE P cf a ρ st = .ok (B true) st') : execS P cf (.if_ a p q) ρ st = execSs P cf p ρ st' := by rw [execS, ha]; rfl
theorem x_if_f {p q : Sms} (ha : evalE P cf a ρ st = .ok (B false) st') : execS P cf (.if_ a p q) ρ st = execSs P cf q ρ st' := by rw [execS, ha]; rfl
theorem x_if0 {p : Sms} (ha : evalE P cf a ρ st = .ok (B false) st') : execS P cf (.if_ a p .nil) ρ st = .nx ρ st' := by rw [execS, ha]; rfl
theorem x_asg {i : Nat} (ha : evalE P cf a ρ st = .ok x st') (hi : i < ρ.length) : execS P cf (.asg (.nm i) a) ρ st = .nx (ρ.set i (some x)) st' := by
  rw [execS, ha]
  show (match bindT (.nm i) x ρ with
    | some ρ => Fw.nx ρ st'
    | none => .no) = _
  unfold bindT
  rw [if_pos hi]
theorem x_setI {st3 st4 : Store} (hv : evalE P cf e ρ st = .ok x st') (ho : evalE P cf a ρ st' = .ok y st'') (hi : evalE P cf b ρ st'' = .ok z st3) (h : setD st3 y z x = some st4) : execS P cf (.setI a b e) ρ st = .nx ρ st4 := by
  rw [execS, hv, Fw.of_ok, ho, Fw.of_ok, hi, Fw.of_ok, h]
theorem x_ex (ha : evalE P cf a ρ st = .ok x st') : execS P cf (.ex a) ρ st = .nx ρ st' := by rw [execS, ha]; rfl
theorem x_app {st3 : Store} (ho : evalE P cf a ρ st = .ok x st') (hl : isLst st' x = true) (hv : evalE P cf b ρ st' = .ok y st'') (h : changeL st'' x (fun xs => if fits xs.length then some (xs ++ [y]) else none) = some st3) : execS P cf (.app a b) ρ st = .nx ρ st3 := by
  rw [execS, ho, Fw.of_ok, if_pos hl, hv, Fw.of_ok, h]
theorem x_raise {es : Exs} {ds : List D} {cl : String} {ex : Exn} (h : evalEs P cf es ρ st = .ok ds st') (hm : mkExn P cl ds = some ex) : execS P cf (.raise cl es) ρ st = .ex ex st' := by
  rw [execS, h, Fw.of_ok, hm]
theorem x_frz {i k : Nat} {l : List T} (h : ρ[i]? = some (some (.h k))) (hk : st[k]? = some (.lst (l.map .t))) : execS P cf (.frz i) ρ st = .nx (ρ.set i (some (.t (.lst l)))) (st.set k .dead) := by
  rw [execS, h]
  simp only [hk, trees_t]
end
end Pl
end

section
set_option Elab.async false
set_option linter.all false
set_option maxRecDepth 100000
set_option maxHeartbeats 4000000
/-! the need of a house in plain Lean, its memo, its bounds and its growing -/
namespace Nd
open PySem Ice Pl
structure Day where
  p : Int
  m : Int
  r : Int
  g : Int
def Day.t (d : Day) : T := .tup [.int d.p, .int d.m, .int d.r, .int d.g]
def dsT (ds : List Day) : T := .tup (ds.map Day.t)
def own (door : Int) (d : Day) : Int := if 0 < d.p then d.p + door else 0
def melt (d : Day) (deg sacks : Int) : Int := d.m + deg * max 0 (d.r - sacks)
def hasP (ds : List Day) : Bool := ds.any fun d => decide (0 < d.p)
def minL : List Int → Int
  | [] => 0
  | v :: l => l.foldl min v
theorem foldl_min_mem : ∀ (l : List Int) (v : Int), l.foldl min v ∈ v :: l
  | [], v => by simp
  | w :: l, v => by
    have := foldl_min_mem l (min v w)
    simp only [List.foldl_cons, List.mem_cons] at this ⊢
    rcases this with h | h
    · rw [h]; omega
    · exact .inr (.inr h)
theorem minL_mem {l : List Int} (h : l ≠ []) : minL l ∈ l := by
  cases l with
  | nil => exact absurd rfl h
  | cons v l => exact foldl_min_mem l v
theorem foldl_min_le : ∀ (l : List Int) (v : Int), l.foldl min v ≤ v ∧ ∀ x ∈ l, l.foldl min v ≤ x
  | [], v => by simp
  | w :: l, v => by
    obtain ⟨h1, h2⟩ := foldl_min_le l (min v w)
    simp only [List.foldl_cons, List.mem_cons]
    refine ⟨by omega, ?_⟩
    rintro x (rfl | hx)
    · omega
    · exact h2 x hx
theorem minL_le {l : List Int} {x : Int} (h : x ∈ l) : minL l ≤ x := by
  cases l with
  | nil => cases h
  | cons v l =>
    rcases List.mem_cons.mp h with rfl | h
    · exact (foldl_min_le l x).1
    · exact (foldl_min_le l v).2 x h
theorem foldl_max_le : ∀ (l : List Int) (v : Int), v ≤ l.foldl max v ∧ ∀ x ∈ l, x ≤ l.foldl max v
  | [], v => by simp
  | w :: l, v => by
    obtain ⟨h1, h2⟩ := foldl_max_le l (max v w)
    simp only [List.foldl_cons, List.mem_cons]
    refine ⟨by omega, ?_⟩
    rintro x (rfl | hx)
    · omega
    · exact h2 x hx
theorem le_maxL {l : List Int} {x : Int} (h : x ∈ l) : x ≤ maxL l := by
  cases l with
  | nil => cases h
  | cons v l =>
    rcases List.mem_cons.mp h with rfl | h
    · exact (foldl_max_le l x).1
    · exact (foldl_max_le l v).2 x h
theorem maxL_eq {l : List Int} {v : Int} (h : v ∈ l) (h2 : ∀ x ∈ l, x ≤ v) : maxL l = v := by
  have h3 := le_maxL h
  have h4 := h2 _ (maxL_mem (by rintro rfl; cases h))
  omega
theorem minL_eq {l : List Int} {v : Int} (h : v ∈ l) (h2 : ∀ x ∈ l, v ≤ x) : minL l = v := by
  have h3 := minL_le h
  have h4 := h2 _ (minL_mem (by rintro rfl; cases h))
  omega
theorem maxL_const {l : List Int} {v : Int} (hn : l ≠ []) (h : ∀ x ∈ l, x = v) : maxL l = v := h _ (maxL_mem hn)
theorem minL_const {l : List Int} {v : Int} (hn : l ≠ []) (h : ∀ x ∈ l, x = v) : minL l = v := h _ (minL_mem hn)
theorem minT_int : ∀ (l : List Int) (v : Int), minT (.int v) (l.map T.int) = .int (l.foldl min v)
  | [], v => rfl
  | w :: l, v => by
    show (l.map T.int).foldl _ (if ltT (.int w) (.int v) then T.int w else .int v) = _
    rw [lt_int]
    have e : (if decide (w < v) = true then T.int w else .int v) = .int (min v w) := by
      by_cases h : w < v
      · simp [h]; omega
      · simp [h]; omega
    rw [e]
    exact minT_int l (min v w)
theorem min1_ints {st : Store} {d : D} {l : List Int} (h : items st d = some (l.map fun v => I v)) (hn : l ≠ []) : minD1 st d = some (I (minL l)) := by
  cases l with
  | nil => exact absurd rfl hn
  | cons v l =>
    unfold minD1
    rw [h, Option.bind_some, trees_mp (fun v : Int => T.int v), Option.bind_some]
    show (if goodL ((v :: l).map T.int) then some (D.t (minT (.int v) (l.map T.int))) else none) = _
    rw [good_int, if_pos rfl, minT_int]
    rfl
theorem bi_max {st : Store} {l : List Int} (hn : l ≠ []) : biD .max [.t (.lst (l.map T.int))] st = some (I (maxL l)) := by
  unfold biD oneTwo
  exact max1_ints (by simp) hn
theorem bi_min {st : Store} {l : List Int} (hn : l ≠ []) : biD .min [.t (.lst (l.map T.int))] st = some (I (minL l)) := by
  unfold biD oneTwo
  exact min1_ints (by simp) hn
theorem bi_maxk {st : Store} {l : List Int} {v : Int} : bikD .max (.t (.lst (l.map T.int))) (I v) st = some (I (if l = [] then v else maxL l)) := by
  unfold bikD
  simp only
  rw [litems_lst, Option.bind_some, trees_t, Option.bind_some]
  cases l with
  | nil => rfl
  | cons w l =>
    show (if goodL ((w :: l).map T.int) then some (D.t (maxT (.int w) (l.map T.int))) else none) = _
    rw [good_int, if_pos rfl, maxT_int]
    rfl
/-- the integers 0 .. n -/
def upto (n : Int) : List Int := (List.range (n + 1).toNat).map fun i => ((i : Nat) : Int)
theorem mem_upto {n x : Int} : x ∈ upto n ↔ 0 ≤ x ∧ x ≤ n := by
  unfold upto
  simp only [List.mem_map, List.mem_range]
  constructor
  · rintro ⟨i, h, rfl⟩; omega
  · rintro ⟨h, h2⟩; exact ⟨x.toNat, by omega, by omega⟩
theorem upto_ne {n : Int} (h : 0 ≤ n) : upto n ≠ [] := by
  intro e
  have := mem_upto.mpr ⟨Int.le_refl 0, h⟩
  rw [e] at this
  cases this
theorem map_ne {α β : Type} {f : α → β} {l : List α} (h : l ≠ []) : l.map f ≠ [] := by simpa using h
/-- the need with the degrees and the sacks told -/
def wi (door : Int) (d : Day) (more : Bool) (f : Int → Int → Int) (s w i j : Int) : Int := if more then own door d + melt d i j + f (s - j) (w - i) else own door d
def N (door : Int) : List Day → Int → Int → Int
  | [], _, _ => 0
  | d :: ds, s, w => if hasP (d :: ds) then maxL ((upto (min d.g w)).map fun i => minL ((upto s).map fun j => wi door d (hasP ds) (N door ds) s w i j)) else 0
def lo (door : Int) (d : Day) (ds : List Day) (s w i : Int) : Int := minL ((upto s).map fun j => wi door d (hasP ds) (N door ds) s w i j)
theorem N_cons {door : Int} {d : Day} {ds : List Day} {s w : Int} (h : hasP (d :: ds) = true) : N door (d :: ds) s w = maxL ((upto (min d.g w)).map fun i => lo door d ds s w i) := by
  rw [N, if_pos h]
  rfl
theorem N_no {door : Int} {ds : List Day} {s w : Int} (h : hasP ds = false) : N door ds s w = 0 := by
  cases ds with
  | nil => rfl
  | cons d ds => rw [N, if_neg (by rw [h]; decide)]
/-! ### the last day with a promise -/
def prom (ds : List Day) : List Int := ((List.range ds.length).filter fun i => decide (0 < (ds.getD i ⟨0, 0, 0, 0⟩).p)).map fun i => ((i : Nat) : Int)
def last (ds : List Day) : Int := maxL (-1 :: prom ds)
theorem mem_prom {ds : List Day} {x : Int} : x ∈ prom ds ↔ ∃ i : Nat, x = i ∧ ∃ h : i < ds.length, 0 < (ds[i]).p := by
  unfold prom
  simp only [List.mem_map, List.mem_filter, List.mem_range, decide_eq_true_eq]
  constructor
  · rintro ⟨i, ⟨h, h2⟩, rfl⟩
    refine ⟨i, rfl, h, ?_⟩
    simpa [h] using h2
  · rintro ⟨i, rfl, h, h2⟩
    exact ⟨i, ⟨h, by simpa [h] using h2⟩, rfl⟩
theorem last_nil {ds : List Day} : (if prom ds = [] then -1 else maxL (prom ds)) = last ds := by
  unfold last
  by_cases h : prom ds = []
  · rw [if_pos h, h]; rfl
  · rw [if_neg h]
    symm
    refine maxL_eq (List.mem_cons_of_mem _ (maxL_mem h)) ?_
    intro x hx
    rcases List.mem_cons.mp hx with rfl | hx
    · have := maxL_mem h
      obtain ⟨i, e, _⟩ := mem_prom.mp this
      omega
    · exact le_maxL hx
theorem last_of {ds : List Day} {l : List Int} (h : ∀ x, x ∈ l ↔ x ∈ prom ds) : (if l = [] then -1 else maxL l) = last ds := by
  rw [← last_nil]
  by_cases c : prom ds = []
  · have : l = [] := by
      cases l with
      | nil => rfl
      | cons a l => have := (h a).mp List.mem_cons_self; rw [c] at this; cases this
    rw [if_pos this, if_pos c]
  · have hl : l ≠ [] := by
      intro e
      obtain ⟨a, ha⟩ := List.exists_mem_of_ne_nil _ c
      have := (h a).mpr ha
      rw [e] at this
      cases this
    rw [if_neg hl, if_neg c]
    exact maxL_eq ((h _).mpr (maxL_mem c)) fun x hx => le_maxL ((h x).mp hx)
theorem last_of1 {ds : List Day} {l : List Int} (h : ∀ x, x ∈ l ↔ x ∈ prom ds) : maxL (-1 :: l) = last ds := by
  unfold last
  refine maxL_eq ?_ fun x hx => ?_
  · rcases List.mem_cons.mp (maxL_mem (l := -1 :: prom ds) (by simp)) with e | e
    · rw [e]; exact List.mem_cons_self
    · exact List.mem_cons_of_mem _ ((h _).mpr e)
  · rcases List.mem_cons.mp hx with rfl | hx
    · exact le_maxL List.mem_cons_self
    · exact le_maxL (List.mem_cons_of_mem _ ((h x).mp hx))
theorem prom_zip {ds : List Day} (x : Int) : x ∈ ((ds.zipIdx.filter fun q => decide (0 < q.1.p)).map fun q => ((q.2 : Nat) : Int)) ↔ x ∈ prom ds := by
  rw [mem_prom]
  simp only [List.mem_map, List.mem_filter, decide_eq_true_eq]
  constructor
  · rintro ⟨⟨d, i⟩, ⟨h, h2⟩, rfl⟩
    rw [List.mem_zipIdx_iff_getElem?] at h
    obtain ⟨hl, e⟩ := List.getElem?_eq_some_iff.mp h
    exact ⟨i, rfl, hl, by rw [e]; exact h2⟩
  · rintro ⟨i, rfl, hl, h2⟩
    exact ⟨(ds[i], i), ⟨by rw [List.mem_zipIdx_iff_getElem?]; exact List.getElem?_eq_getElem hl, h2⟩, rfl⟩
theorem le_last {ds : List Day} {k : Nat} : (k : Int) ≤ last ds ↔ hasP (ds.drop k) = true := by
  have hm := maxL_mem (l := -1 :: prom ds) (by simp)
  unfold hasP
  rw [List.any_eq_true]
  constructor
  · intro h
    unfold last at h
    rcases List.mem_cons.mp hm with e | hp
    · omega
    · obtain ⟨i, e, hi, hp⟩ := mem_prom.mp hp
      refine ⟨ds[i], ?_, by simpa using hp⟩
      rw [List.mem_drop_iff_getElem]
      exact ⟨i - k, by omega, by congr 1; omega⟩
  · rintro ⟨d, hd, hp⟩
    rw [List.mem_drop_iff_getElem] at hd
    obtain ⟨j, hj, rfl⟩ := hd
    have h1 : ((k + j : Nat) : Int) ∈ prom ds := mem_prom.mpr ⟨k + j, rfl, by omega, by simpa using hp⟩
    have h2 := le_maxL (List.mem_cons_of_mem (-1) h1)
    show (k : Int) ≤ maxL (-1 :: prom ds)
    omega
theorem last_ge {ds : List Day} : -1 ≤ last ds := le_maxL List.mem_cons_self
/-! ### bounds and growing -/
def Pos (ds : List Day) : Prop := ∀ d ∈ ds, 0 ≤ d.p ∧ 0 ≤ d.m ∧ 0 ≤ d.r ∧ 0 ≤ d.g
theorem Pos.tail {d : Day} {ds : List Day} (h : Pos (d :: ds)) : Pos ds := fun e he => h e (List.mem_cons_of_mem _ he)
theorem melt_nonneg {d : Day} {i j : Int} (h : 0 ≤ d.m) (hi : 0 ≤ i) : 0 ≤ melt d i j := by
  unfold melt
  have : 0 ≤ i * max 0 (d.r - j) := Int.mul_nonneg hi (by omega)
  omega
theorem N_nonneg {door : Int} (hd : 0 ≤ door) : ∀ {ds : List Day} {s w : Int}, Pos ds → 0 ≤ s → 0 ≤ w → 0 ≤ N door ds s w
  | [], _, _, _, _, _ => Int.le_refl 0
  | d :: ds, s, w, h, hs, hw => by
    by_cases hp : hasP (d :: ds)
    · rw [N_cons hp]
      obtain ⟨h1, h2, h3, h4⟩ := h d List.mem_cons_self
      have hm := maxL_mem (l := (upto (min d.g w)).map fun i => lo door d ds s w i) (map_ne (upto_ne (by omega)))
      obtain ⟨i, hi, e⟩ := List.mem_map.mp hm
      rw [← e]
      have hi := mem_upto.mp hi
      have hm2 := minL_mem (l := (upto s).map fun j => wi door d (hasP ds) (N door ds) s w i j) (map_ne (upto_ne hs))
      obtain ⟨j, hj, e2⟩ := List.mem_map.mp hm2
      unfold lo
      rw [← e2]
      have hj := mem_upto.mp hj
      unfold wi
      have ho : 0 ≤ own door d := by unfold own; split <;> omega
      have := melt_nonneg (d := d) (i := i) (j := j) h2 hi.1
      have := N_nonneg hd (ds := ds) (s := s - j) (w := w - i) h.tail (by omega) (by omega)
      split <;> omega
    · rw [N_no (by simpa using hp)]
      exact Int.le_refl 0
theorem maxL_le {l : List Int} {v : Int} (hn : l ≠ []) (h : ∀ x ∈ l, x ≤ v) : maxL l ≤ v := h _ (maxL_mem hn)
theorem le_minL {l : List Int} {v : Int} (hn : l ≠ []) (h : ∀ x ∈ l, v ≤ x) : v ≤ minL l := h _ (minL_mem hn)
/-- a day that asks no more -/
def Le (d e : Day) : Prop := d.p ≤ e.p ∧ d.m = e.m ∧ d.r = e.r ∧ d.g = e.g
inductive LeAll : List Day → List Day → Prop
  | nil : LeAll [] []
  | cons {d e : Day} {ds es : List Day} : Le d e → LeAll ds es → LeAll (d :: ds) (e :: es)
theorem LeAll.refl : ∀ {ds : List Day}, LeAll ds ds
  | [] => .nil
  | d :: ds => .cons ⟨Int.le_refl _, rfl, rfl, rfl⟩ LeAll.refl
theorem LeAll.hasP {ds es : List Day} (h : LeAll ds es) : hasP ds = true → hasP es = true := by
  induction h with
  | nil => exact id
  | cons hd h ih =>
    rename_i d e ds es
    unfold Nd.hasP at ih ⊢
    simp only [List.any_cons, Bool.or_eq_true, decide_eq_true_eq]
    rintro (q | q)
    · have := hd.1; exact .inl (by omega)
    · exact .inr (ih q)
theorem N_mono {door : Int} (hd : 0 ≤ door) {ds es : List Day} (h : LeAll ds es) : ∀ {s t w v : Int}, Pos ds → Pos es → t ≤ s → 0 ≤ t → w ≤ v → 0 ≤ w → N door ds s w ≤ N door es t v := by
  induction h with
  | nil => intro s t w v _ _ _ _ _ _; exact Int.le_refl 0
  | cons hde h ih =>
    rename_i d e ds es
    intro s t w v pd pe hst ht hwv hw
    by_cases hp : hasP (d :: ds) = true
    · have hq : hasP (e :: es) = true := (LeAll.cons hde h).hasP hp
      obtain ⟨h1, h2, h3, h4⟩ := hde
      obtain ⟨d1, d2, d3, d4⟩ := pd d List.mem_cons_self
      rw [N_cons hp, N_cons hq]
      refine maxL_le (map_ne (upto_ne (by omega))) ?_
      intro x hx
      obtain ⟨i, hi, rfl⟩ := List.mem_map.mp hx
      have hi := mem_upto.mp hi
      refine Int.le_trans ?_ (le_maxL (List.mem_map_of_mem (f := fun i => lo door e es t v i) (mem_upto.mpr ⟨hi.1, by omega⟩)))
      unfold lo
      refine le_minL (map_ne (upto_ne ht)) ?_
      intro x hx
      obtain ⟨j, hj, rfl⟩ := List.mem_map.mp hx
      have hj := mem_upto.mp hj
      refine Int.le_trans (minL_le (List.mem_map_of_mem (f := fun j => wi door d (Nd.hasP ds) (N door ds) s w i j) (mem_upto.mpr ⟨hj.1, by omega⟩))) ?_
      have hN := ih (s := s - j) (t := t - j) (w := w - i) (v := v - i) pd.tail pe.tail (by omega) (by omega) (by omega) (by omega)
      have hNN := N_nonneg hd (ds := es) (s := t - j) (w := v - i) pe.tail (by omega) (by omega)
      have hm : melt d i j = melt e i j := by unfold melt; rw [h2, h3]
      have hm0 : 0 ≤ melt e i j := melt_nonneg (by omega) hi.1
      have ho : own door d ≤ own door e := by unfold own; split <;> split <;> omega
      unfold wi
      by_cases c1 : Nd.hasP ds = true
      · rw [if_pos c1, if_pos (h.hasP c1)]
        omega
      · rw [if_neg c1]
        split <;> omega
    · rw [N_no (by simpa using hp)]
      exact N_nonneg hd pe ht (by omega)
/-- the bounds of a day -/
def Fit (ds : List Day) : Prop := ∀ d ∈ ds, d.p ≤ 100000 ∧ d.m ≤ 20 ∧ d.r ≤ 9 ∧ d.g ≤ 5
theorem Fit.tail {d : Day} {ds : List Day} (h : Fit (d :: ds)) : Fit ds := fun e he => h e (List.mem_cons_of_mem _ he)
def sumP : List Day → Int
  | [] => 0
  | d :: ds => d.p + sumP ds
theorem sumP_nonneg : ∀ {ds : List Day}, Pos ds → 0 ≤ sumP ds
  | [], _ => Int.le_refl 0
  | d :: ds, h => by
    have := sumP_nonneg h.tail
    have := (h d List.mem_cons_self).1
    show 0 ≤ d.p + sumP ds
    omega
theorem N_le {door : Int} (hd : 0 ≤ door) (hd9 : door ≤ 9) : ∀ {ds : List Day} {s w : Int}, Pos ds → Fit ds → 0 ≤ s → 0 ≤ w → N door ds s w ≤ sumP ds + 74 * ds.length
  | [], _, _, _, _, _, _ => by simp [N, sumP]
  | d :: ds, s, w, h, hf, hs, hw => by
    have hsp := sumP_nonneg h.tail
    obtain ⟨h1, h2, h3, h4⟩ := h d List.mem_cons_self
    obtain ⟨f1, f2, f3, f4⟩ := hf d List.mem_cons_self
    have hlen : ((d :: ds).length : Int) = ds.length + 1 := by simp
    have hsum : sumP (d :: ds) = d.p + sumP ds := rfl
    by_cases hp : hasP (d :: ds)
    · rw [N_cons hp, hsum, hlen]
      refine maxL_le (map_ne (upto_ne (by omega))) ?_
      intro x hx
      obtain ⟨i, hi, rfl⟩ := List.mem_map.mp hx
      have hi := mem_upto.mp hi
      unfold lo
      refine Int.le_trans (minL_le (List.mem_map_of_mem (f := fun j => wi door d (hasP ds) (N door ds) s w i j) (mem_upto.mpr ⟨Int.le_refl 0, hs⟩))) ?_
      have hN := N_le hd hd9 (ds := ds) (s := s - 0) (w := w - i) h.tail hf.tail (by omega) (by omega)
      have ho : own door d ≤ d.p + 9 := by unfold own; split <;> omega
      have hm : melt d i 0 ≤ 65 := by
        unfold melt
        have : i * max 0 (d.r - 0) ≤ 5 * 9 := Int.mul_le_mul (by omega) (by omega) (by omega) (by omega)
        omega
      show (if hasP ds = true then own door d + melt d i 0 + N door ds (s - 0) (w - i) else own door d) ≤ _
      split <;> omega
    · rw [N_no (by simpa using hp), hsum, hlen]
      omega
/-! ### the memo -/
structure Memo (door : Int) (ds : List Day) (kvs : List (List Int × T)) : Prop where
  val : ∀ k v, (k, v) ∈ kvs → ∃ (d : Nat) (s w : Int), k = [(d : Int), s, w] ∧ v = .int (N door (ds.drop d) s w) ∧ d < 12 ∧ 0 ≤ s ∧ s ≤ 8 ∧ 0 ≤ w ∧ w ≤ 12
  nod : (kvs.map (·.1)).Nodup
theorem Memo.nil {door : Int} {ds : List Day} : Memo door ds [] := ⟨fun k v h => (by cases h), List.nodup_nil⟩
def code : List Int → Nat
  | [d, s, w] => (d.toNat * 20 + s.toNat) * 20 + w.toNat
  | _ => 0
theorem nodup_len : ∀ {l m : List Nat}, l.Nodup → (∀ x ∈ l, x ∈ m) → l.length ≤ m.length
  | [], _, _, _ => Nat.zero_le _
  | x :: l, m, hn, hs => by
    have hx := hs x List.mem_cons_self
    have h1 := List.length_erase_of_mem hx
    have hpos : 0 < m.length := List.length_pos_of_mem hx
    have hn' := List.nodup_cons.mp hn
    have := nodup_len (l := l) (m := m.erase x) hn'.2 fun y hy => by
      have hne : y ≠ x := by rintro rfl; exact hn'.1 hy
      exact (List.mem_erase_of_ne hne).mpr (hs y (List.mem_cons_of_mem _ hy))
    simp only [List.length_cons]
    omega
theorem nodup_map_on {α β : Type} {f : α → β} : ∀ {l : List α}, l.Nodup → (∀ x ∈ l, ∀ y ∈ l, f x = f y → x = y) → (l.map f).Nodup
  | [], _, _ => List.nodup_nil
  | x :: l, hn, hi => by
    have hn' := List.nodup_cons.mp hn
    rw [List.map_cons, List.nodup_cons]
    refine ⟨fun hm => ?_, nodup_map_on hn'.2 fun a ha b hb => hi a (List.mem_cons_of_mem _ ha) b (List.mem_cons_of_mem _ hb)⟩
    obtain ⟨y, hy, e⟩ := List.mem_map.mp hm
    have := hi y (List.mem_cons_of_mem _ hy) x List.mem_cons_self e
    subst this
    exact hn'.1 hy
theorem Memo.small {door : Int} {ds : List Day} {kvs : List (List Int × T)} (h : Memo door ds kvs) : kvs.length < 1000000 := by
  have hk : ∀ k ∈ kvs.map (·.1), ∃ (d : Nat) (s w : Int), k = [(d : Int), s, w] ∧ d < 12 ∧ 0 ≤ s ∧ s ≤ 8 ∧ 0 ≤ w ∧ w ≤ 12 := by
    intro k hk
    obtain ⟨⟨k', v⟩, hm, rfl⟩ := List.mem_map.mp hk
    obtain ⟨d, s, w, h1, _, h3⟩ := h.val _ _ hm
    exact ⟨d, s, w, h1, h3⟩
  have h1 : ((kvs.map (·.1)).map code).Nodup := by
    refine nodup_map_on h.nod ?_
    intro x hx y hy e
    obtain ⟨d, s, w, rfl, b⟩ := hk x hx
    obtain ⟨d', s', w', rfl, b'⟩ := hk y hy
    simp only [code] at e
    have e1 : d = d' := by omega
    have e2 : s = s' := by omega
    have e3 : w = w' := by omega
    rw [e1, e2, e3]
  have h2 := nodup_len (m := List.range 8000) h1 fun c hc => by
    obtain ⟨k, hk', rfl⟩ := List.mem_map.mp hc
    obtain ⟨d, s, w, rfl, b⟩ := hk k hk'
    simp only [code, List.mem_range]
    omega
  simp only [List.length_map, List.length_range] at h2
  omega
theorem lookup_none {α β : Type} [BEq α] [LawfulBEq α] {l : List (α × β)} {k : α} (h : k ∉ l.map (·.1)) : l.lookup k = none := by
  cases e : l.lookup k with
  | none => rfl
  | some v => exact absurd (List.mem_map_of_mem (f := (·.1)) (mem_of_look e)) h
theorem lookup_some {α β : Type} [BEq α] [LawfulBEq α] {k : α} : ∀ {l : List (α × β)}, k ∈ l.map (·.1) → ∃ v, l.lookup k = some v
  | [], h => by cases h
  | (a, b) :: l, h => by
    rw [List.lookup_cons]
    by_cases e : k = a
    · subst e; exact ⟨b, by rw [beq_self_eq_true]⟩
    · rw [beq_eq_false_iff_ne.mpr e]
      refine lookup_some ?_
      rcases List.mem_cons.mp h with h | h
      · exact absurd h e
      · exact h
/-- what a look at the mornings from day d on has added -/
structure Ext (door : Int) (ds : List Day) (d : Nat) (kvs kvs' : List (List Int × T)) : Prop where
  memo : Memo door ds kvs'
  new : ∀ k ∈ kvs'.map (·.1), k ∈ kvs.map (·.1) ∨ ∃ (e : Nat) (s w : Int), k = [(e : Int), s, w] ∧ d ≤ e
theorem Ext.refl {door : Int} {ds : List Day} {d : Nat} {kvs : List (List Int × T)} (h : Memo door ds kvs) : Ext door ds d kvs kvs := ⟨h, fun k hk => .inl hk⟩
theorem Ext.trans {door : Int} {ds : List Day} {d : Nat} {a b c : List (List Int × T)} (h : Ext door ds d a b) (h' : Ext door ds d b c) : Ext door ds d a c :=
  ⟨h'.memo, fun k hk => (h'.new k hk).elim (fun q => h.new k q) .inr⟩
theorem Ext.down {door : Int} {ds : List Day} {d e : Nat} {a b : List (List Int × T)} (h : Ext door ds e a b) (hd : d ≤ e) : Ext door ds d a b :=
  ⟨h.memo, fun k hk => (h.new k hk).imp id fun ⟨e', s, w, h1, h2⟩ => ⟨e', s, w, h1, by omega⟩⟩
theorem Memo.look {door : Int} {ds : List Day} {kvs : List (List Int × T)} (h : Memo door ds kvs) {d : Nat} {s w : Int} {v : T} (e : kvs.lookup [(d : Int), s, w] = some v) : v = .int (N door (ds.drop d) s w) := by
  obtain ⟨d', s', w', h1, h2, _⟩ := h.val _ _ (mem_of_look e)
  simp only [List.cons.injEq, and_true] at h1
  obtain ⟨h1, h3, h4⟩ := h1
  have : d = d' := by omega
  subst this h3 h4
  exact h2
/-- the value is kept under its key -/
theorem Ext.put {door : Int} {ds : List Day} {d : Nat} {s w : Int} {kvs kvs' : List (List Int × T)} (h : Ext door ds (d + 1) kvs kvs') (hn : kvs.lookup [(d : Int), s, w] = none) (hd : d < 12) (hs : 0 ≤ s) (hs8 : s ≤ 8) (hw : 0 ≤ w) (hw12 : w ≤ 12) :
    kvs'.lookup [(d : Int), s, w] = none ∧ Ext door ds d kvs (kvs' ++ [([(d : Int), s, w], .int (N door (ds.drop d) s w))]) := by
  have hk : [(d : Int), s, w] ∉ kvs'.map (·.1) := by
    intro hm
    rcases h.new _ hm with q | ⟨e, s', w', q, he⟩
    · obtain ⟨v, hv⟩ := lookup_some q
      rw [hn] at hv
      cases hv
    · simp only [List.cons.injEq] at q
      omega
  refine ⟨lookup_none hk, ⟨fun k v hkv => ?_, ?_⟩, fun k hkm => ?_⟩
  · rcases List.mem_append.mp hkv with q | q
    · exact h.memo.val k v q
    · rw [List.mem_singleton, Prod.mk.injEq] at q
      obtain ⟨rfl, rfl⟩ := q
      exact ⟨d, s, w, rfl, rfl, hd, hs, hs8, hw, hw12⟩
  · rw [List.map_append, List.nodup_append]
    refine ⟨h.memo.nod, by simp, ?_⟩
    intro a ha b hb e
    subst e
    simp only [List.map_cons, List.map_nil, List.mem_singleton] at hb
    subst hb
    exact hk ha
  · rw [List.map_append, List.mem_append] at hkm
    rcases hkm with q | q
    · exact (h.down (Nat.le_succ d)).new k q
    · simp only [List.map_cons, List.map_nil, List.mem_singleton] at q
      exact .inr ⟨d, s, w, q, Nat.le_refl d⟩
theorem lookup_app {α β : Type} [BEq α] [LawfulBEq α] {k : α} {v : β} : ∀ {l : List (α × β)}, l.lookup k = none → (l ++ [(k, v)]).lookup k = some v
  | [], _ => by simp [List.lookup]
  | (a, b) :: l, h => by
    rw [List.lookup_cons] at h
    rw [List.cons_append, List.lookup_cons]
    cases e : k == a with
    | true => rw [e] at h; cases h
    | false =>
      rw [e] at h
      exact lookup_app h
end Nd
/-! ### comprehensions whose elements change the store -/
namespace Pl
open PySem Ice
theorem comp_J {α : Type} {l : List D} {b : D → Store → R (Option D)} {st st' : Store} (J : Store → Prop) (xs : List α) (f g : α → D) (hl : l = xs.map f) (h0 : J st) (hb : ∀ x ∈ xs, ∀ st, J st → Ok (b (f x) st) fun o st' => o = some (g x) ∧ J st') (hn : xs.length ≤ 1000000) :
    Ok (compL (.xs l) b (lenI st' (.xs l)) 0 [] st) fun ys st' => ys = xs.map g ∧ J st' := by
  subst hl
  show Ok (compL _ b (xs.map f).length 0 [] st) _
  rw [List.length_map]
  refine Ok_comp (n := xs.length) (v := fun i => (xs.map f).getD i (.t .non)) (fun i acc st' => acc = (xs.take i).map g ∧ J st') (fun i acc st' h => ?_) (fun i acc st' hi h => ?_) (fun i hi acc st' h => ?_) (fun acc st' h => ?_) xs.length 0 [] st (Nat.zero_add _) ⟨rfl, h0⟩
  · show some (xs.map f)[i]? = _
    by_cases hi : i < xs.length
    · rw [if_pos hi, List.getElem?_eq_getElem (by simpa using hi), List.getD_eq_getElem?_getD, List.getElem?_eq_getElem (by simpa using hi)]
      rfl
    · rw [if_neg hi, List.getElem?_eq_none (by simp; omega)]
  · rw [h.1, List.length_map]
    have h3 := List.length_take_le' i xs
    omega
  · obtain ⟨rfl, hJ⟩ := h
    have e : (xs.map f).getD i (.t .non) = f xs[i] := by rw [List.getD_eq_getElem?_getD, List.getElem?_eq_getElem (by simpa using hi)]; simp
    rw [e]
    refine (hb _ (List.getElem_mem hi) st' hJ).mono ?_
    rintro o st2 ⟨rfl, hJ2⟩
    refine ⟨?_, hJ2⟩
    rw [List.take_succ_eq_append_getElem hi, List.map_append]
    rfl
  · rw [List.take_length] at h
    exact h
theorem comp_Jr {n : Nat} {b : D → Store → R (Option D)} {st st' : Store} (J : Store → Prop) (g : Int → D) (h0 : J st) (hb : ∀ i : Int, 0 ≤ i → i < n → ∀ st, J st → Ok (b (I i) st) fun o st' => o = some (g i) ∧ J st') (hn : n ≤ 1000000) :
    Ok (compL (.rng 0 1 n) b (lenI st' (.rng 0 1 n)) 0 [] st) fun ys st' => ys = ((List.range n).map fun i => ((i : Nat) : Int)).map g ∧ J st' := by
  show Ok (compL (.rng 0 1 n) b n 0 [] st) _
  rw [compL_rng]
  have := comp_J (st' := []) J ((List.range n).map fun i => ((i : Nat) : Int)) (fun i : Int => I i) g (l := ((List.range n).map fun (i : Nat) => D.t (.int (0 + (i : Int) * 1)))) (b := b) (by simp) h0 (fun i hi st hJ => by
    obtain ⟨j, hj, rfl⟩ := List.mem_map.mp hi
    have := List.mem_range.mp hj
    exact hb j (by omega) (by omega) st hJ) (by simpa using hn)
  have e : lenI [] (.xs ((List.range n).map fun (i : Nat) => D.t (.int (0 + (i : Int) * 1)))) = n := by simp [lenI]
  rw [e] at this
  exact this
section
variable {P : Tab} {cf : CallF} {ρ ρ' : Ice.Env} {st st' st'' st3 : Store} {a b c e : Ex} {x y z d : D}
theorem e_chain_t {o p : COp} {k : Bool} (ha : evalE P cf a ρ st = .ok x st') (hb : evalE P cf b ρ st' = .ok y st'') (h : cmpD st'' o x y = some true) (hc : evalE P cf c ρ st'' = .ok z st3) (h2 : cmpD st3 p y z = some k) : evalE P cf (.chain o p a b c) ρ st = .ok (B k) st3 := by
  rw [evalE, ha, R.bind_ok, hb, R.bind_ok, h, ofOpt_some, R.bind_ok]
  show (evalE P cf c ρ st'').bind _ = _
  rw [hc, R.bind_ok, h2]
  rfl
theorem e_att {f : String} (ha : evalE P cf a ρ st = .ok x st') (h : attF P st' x f = some y) : evalE P cf (.att a f) ρ st = .ok y st' := by rw [evalE, ha, R.bind_ok, h]; rfl
theorem e_glb {g : String} {v : T} (h : P.con g = some v) : evalE P cf (.glb g) ρ st = .ok (.t v) st := by
  rw [evalE]
  simp only [h]
theorem e_ite_t (ha : evalE P cf a ρ st = .ok (B true) st') : evalE P cf (.ite a b c) ρ st = evalE P cf b ρ st' := by rw [evalE, ha]; rfl
theorem e_ite_f (ha : evalE P cf a ρ st = .ok (B false) st') : evalE P cf (.ite a b c) ρ st = evalE P cf c ρ st' := by rw [evalE, ha]; rfl
theorem e_neg {i : Int} (ha : evalE P cf a ρ st = .ok (I i) st') : evalE P cf (.neg a) ρ st = .ok (I (-i)) st' := by rw [evalE, ha]; rfl
theorem es_nil0 : evalEs P cf .nil ρ st = .ok [] st := by rw [evalEs]
theorem es_cons0 {es : Exs} {ds : List D} (ha : evalE P cf a ρ st = .ok x st') (hb : evalEs P cf es ρ st' = .ok ds st'') : evalEs P cf (.cons a es) ρ st = .ok (x :: ds) st'' := by rw [evalEs, ha, R.bind_ok, hb]; rfl
theorem es_star {es : Exs} {ds ys : List D} (ha : evalE P cf a ρ st = .ok x st') (hi : items st' x = some ys) (hb : evalEs P cf es ρ st' = .ok ds st'') : evalEs P cf (.star a es) ρ st = .ok (ys ++ ds) st'' := by rw [evalEs, ha, R.bind_ok, hi, ofOpt_some, R.bind_ok, hb]; rfl
theorem e_call {f : String} {es : Exs} {ds : List D} (h : evalEs P cf es ρ st = .ok ds st') : evalE P cf (.call f es) ρ st = callD P cf f ds st' := by rw [evalE, h, R.bind_ok]
theorem e_new {f : String} {es : Exs} {ds : List D} (h : evalEs P cf es ρ st = .ok ds st') : evalE P cf (.new f es) ρ st = newD P cf f ds st' := by rw [evalE, h, R.bind_ok]
theorem e_meth {m cl : String} {es : Exs} {ds : List D} (ha : evalE P cf a ρ st = .ok x st') (hc : clsD st' x = some cl) (hm : methOk P cl m = true) (hn : hasNot st' x m = true) (h : evalEs P cf es ρ st' = .ok ds st'') : evalE P cf (.meth a m es) ρ st = callD P cf (cl ++ "." ++ m) (x :: ds) st'' := by
  rw [evalE, ha, R.bind_ok, hc, ofOpt_some, R.bind_ok]
  show (if (methOk P cl m && hasNot st' x m) = true then _ else _) = _
  rw [hm, hn]
  show (evalEs P cf es ρ st').bind _ = _
  rw [h, R.bind_ok]
theorem e_tup {es : Exs} {xs : List T} (h : evalEs P cf es ρ st = .ok (xs.map D.t) st') (hl : xs.length ≤ 1000000) : evalE P cf (.tup es) ρ st = .ok (.t (.tup xs)) st' := by
  rw [evalE, h, R.bind_ok]
  unfold few
  rw [if_pos (by rw [List.length_map]; exact decide_eq_true hl), ofOpt_some, R.bind_ok, trees_t, ofOpt_some, R.bind_ok]
theorem e_cut {lo hi : Ox} {l u : Option Int} {xs : List T} (ha : evalE P cf a ρ st = .ok (.t (.tup xs)) st') (h1 : evalO P cf lo ρ st' = .ok l st'') (h2 : evalO P cf hi ρ st'' = .ok u st3) : evalE P cf (.cut a lo hi) ρ st = .ok (.t (.tup (cutL xs l u))) st3 := by
  rw [evalE, ha, R.bind_ok, h1, R.bind_ok, h2, R.bind_ok]
  rfl
theorem o_non : evalO P cf .non ρ st = .ok none st := by rw [evalO]
theorem o_som {i : Int} (ha : evalE P cf a ρ st = .ok (I i) st') : evalO P cf (.som a) ρ st = .ok (some i) st' := by rw [evalO, ha]; rfl
theorem e_fr {l : Fl} {xs : List T} (h : evalL P cf l ρ st = .ok (xs.map D.t) st') : evalE P cf (.fr l) ρ st = .ok (.t (.lst xs)) st' := by rw [evalE, h, R.bind_ok, trees_t]; rfl
theorem x_setA {f : String} {st4 : Store} (hv : evalE P cf e ρ st = .ok x st') (ho : evalE P cf a ρ st' = .ok y st'') (h : setAt P st'' y f x = some st4) : execS P cf (.setA a f e) ρ st = .nx ρ st4 := by
  rw [execS, hv, Fw.of_ok, ho, Fw.of_ok, h]
end
/-! ### what is walked, as a list -/
def pairT (p : T × T) : T := .tup [p.1, p.2]
def enT (p : T × Nat) : T := .tup [.int (p.2 : Int), p.1]
theorem get_zp {as bs : List T} {st : Store} {i : Nat} : getI st i (.zp (.xs (as.map D.t)) (.xs (bs.map D.t))) = getI st i (.xs (((as.zip bs).map pairT).map D.t)) := by
  show (match some ((as.map D.t)[i]?), some ((bs.map D.t)[i]?) with
    | some none, some _ => some none
    | some (some _), some none => some none
    | some (some (.t x)), some (some (.t y)) => some (some (.t (.tup [x, y])))
    | _, _ => none) = some ((((as.zip bs).map pairT).map D.t)[i]?)
  simp only [List.getElem?_map, List.getElem?_zip_eq_some, List.zip]
  rw [List.getElem?_zipWith]
  cases as[i]? <;> cases bs[i]? <;> rfl
theorem get_en {as : List T} {st : Store} {i : Nat} : getI st i (.en (.xs (as.map D.t))) = getI st i (.xs ((as.zipIdx.map enT).map D.t)) := by
  show (match some ((as.map D.t)[i]?) with
    | some (some (.t x)) => some (some (.t (.tup [.int (i : Int), x])))
    | some none => some none
    | _ => none) = some (((as.zipIdx.map enT).map D.t)[i]?)
  simp only [List.getElem?_map, List.getElem?_zipIdx]
  cases as[i]? <;> simp [enT]
theorem compL_eq {a c : It} {b : D → Store → R (Option D)} (h : ∀ (st : Store) (i : Nat), getI st i a = getI st i c) : ∀ (k i : Nat) (acc : List D) (st : Store), compL a b k i acc st = compL c b k i acc st
  | 0, i, acc, st => by unfold compL; rw [h]
  | k + 1, i, acc, st => by
    unfold compL
    rw [h]
    simp only [compL_eq h k]
theorem forL_eq {a c : It} {tg : Tg} {b : Ice.Env → Store → Fw} (h : ∀ (st : Store) (i : Nat), getI st i a = getI st i c) : ∀ (k i : Nat) (ρ : Ice.Env) (st : Store), forL a tg b k i ρ st = forL c tg b k i ρ st
  | 0, i, ρ, st => by unfold forL; rw [h]
  | k + 1, i, ρ, st => by
    unfold forL
    rw [h]
    simp only [forL_eq h k]
theorem compL_fuel {xs : List D} {b : D → Store → R (Option D)} : ∀ (k j i : Nat) (acc : List D) (st : Store), xs.length ≤ i + k → xs.length ≤ i + j → compL (.xs xs) b k i acc st = compL (.xs xs) b j i acc st := by
  intro k
  induction k with
  | zero =>
    intro j i acc st h1 h2
    have e : getI st i (.xs xs) = some none := by show some xs[i]? = _; rw [List.getElem?_eq_none (by omega)]
    unfold compL
    rw [e]
  | succ k ih =>
    intro j i acc st h1 h2
    by_cases hi : i < xs.length
    · obtain ⟨j, rfl⟩ : ∃ j', j = j' + 1 := ⟨j - 1, by omega⟩
      unfold compL
      have e : getI st i (.xs xs) = some (some xs[i]) := by show some xs[i]? = _; rw [List.getElem?_eq_getElem hi]
      rw [e]
      simp only
      congr 1
      funext o st'
      rw [ih j (i + 1) _ _ (by omega) (by omega)]
    · have e : getI st i (.xs xs) = some none := by show some xs[i]? = _; rw [List.getElem?_eq_none (by omega)]
      unfold compL
      rw [e]
theorem comp_zm {α : Type} {as bs : List T} {b : D → Store → R (Option D)} {st st' : Store} (xs : List α) (f g : α → D) (hl : ((as.zip bs).map pairT).map D.t = xs.map f) (hb : ∀ x ∈ xs, b (f x) st = .ok (some (g x)) st) (hn : xs.length ≤ 1000000) :
    compL (.zp (.xs (as.map D.t)) (.xs (bs.map D.t))) b (lenI st' (.zp (.xs (as.map D.t)) (.xs (bs.map D.t)))) 0 [] st = .ok (xs.map g) st := by
  rw [compL_eq (fun st i => get_zp)]
  have hlen : xs.length = (as.zip bs).length := by
    have := congrArg List.length hl
    simpa using this.symm
  rw [compL_fuel _ xs.length 0 [] st (by simp [lenI]; omega) (by simp; rw [hlen]; simp)]
  have := comp_m (st := st) (st' := st') (b := b) xs f g hl hb hn
  rw [show lenI st' (.xs (((as.zip bs).map pairT).map D.t)) = xs.length from by rw [hl]; simp [lenI]] at this
  exact this
theorem comp_ef {α : Type} {as : List T} {b : D → Store → R (Option D)} {st st' : Store} (xs : List α) (f g : α → D) (p : α → Bool) (hl : (as.zipIdx.map enT).map D.t = xs.map f) (hb : ∀ x ∈ xs, b (f x) st = .ok (if p x then some (g x) else none) st) (hn : xs.length ≤ 1000000) :
    compL (.en (.xs (as.map D.t))) b (lenI st' (.en (.xs (as.map D.t)))) 0 [] st = .ok ((xs.filter p).map g) st := by
  rw [compL_eq (fun st i => get_en)]
  have := comp_f (st := st) (st' := st') (b := b) xs f g p hl hb hn
  have hlen : xs.length = as.length := by
    have := congrArg List.length hl
    simpa using this.symm
  rw [show lenI st' (.xs ((as.zipIdx.map enT).map D.t)) = as.length from by simp [lenI]] at this
  rw [show lenI st' (.en (.xs (as.map D.t))) = as.length from by simp [lenI]]
  exact this
theorem En_for_em {α : Type} {as : List T} {tg : Tg} {body : Ice.Env → Store → Fw} {N : Ice.Env → Store → Prop} {T' : D → Store → Prop} {ρ : Ice.Env} {st st' : Store} (xs : List α) (f : α → D) (hl : (as.zipIdx.map enT).map D.t = xs.map f) (J : Nat → Ice.Env → Store → Prop) (h0 : J 0 ρ st) (hs : ∀ i (hi : i < xs.length), ∀ ρ st, J i ρ st → ∃ ρ', bindT tg (f xs[i]) ρ = some ρ' ∧ En (body ρ' st) (J (i + 1)) T') (hn : ∀ ρ st, J xs.length ρ st → N ρ st) :
    En (forL (.en (.xs (as.map D.t))) tg body (lenI st' (.en (.xs (as.map D.t)))) 0 ρ st) N T' := by
  rw [forL_eq (fun st i => get_en)]
  have hlen : xs.length = as.length := by
    have := congrArg List.length hl
    simpa using this.symm
  have := En_for_m (body := body) (tg := tg) (N := N) (T := T') (ρ := ρ) (st := st) (st' := st') xs f hl J h0 hs hn
  rw [show lenI st' (.xs ((as.zipIdx.map enT).map D.t)) = as.length from by simp [lenI]] at this
  rw [show lenI st' (.en (.xs (as.map D.t))) = as.length from by simp [lenI]]
  exact this
/-! ### making an instance out of trees -/
theorem new_0 {P : Tab} {cf : CallF} {c : String} {C : ClsR} {F : Fn} {args ds : List D} {st : Store} (hC : P.cls c = some C) (hF : P.fn C.init = some F) (hn : fill F (.h 0 :: args) = some (.h 0 :: ds)) (ht : ∀ d ∈ ds, ∃ x, d = D.t x) : newD P cf c args st = match cf C.init (.h 0 :: ds) [.ins c []] with
    | R.no => R.no
    | R.ex e _ => R.ex e st
    | R.ok (D.t T.non) st' => (if C.frozen = true then (match st'[0]? with
        | some (O.ins c' fs) => (if c' = c then (match freezeFs fs with
          | some gs => R.ok (D.t (T.ins c gs)) st
          | none => R.no) else R.no)
        | _ => R.no)
      else R.ok (D.h st.length) (st ++ st'.map (mapO (unD [] st.length))))
    | R.ok _ _ => R.no := by
  unfold newD
  rw [hC]
  simp only [hF, hn]
  unfold newD0
  have e1 : reach st ds = [] := reach_trees ht
  rw [e1]
  simp only [okKs_trees ht, ren_trees ht]
  rw [if_neg (by decide)]
  show (match cf C.init (.h 0 :: ds) [.ins c []] with
    | R.no => R.no
    | R.ex e st' => if closedS 0 st' then R.ex e (backS [] st st' true) else R.no
    | R.ok (D.t T.non) st' => if closedS 0 st' then
      (if C.frozen = true then (match st'[0]? with
        | some (O.ins c' fs) => if c' = c then (match freezeFs fs with
          | some gs => R.ok (D.t (T.ins c gs)) (backS [] st st' true)
          | none => R.no) else R.no
        | _ => R.no)
      else R.ok (D.h st.length) (backS [] st st' false)) else R.no
    | R.ok _ _ => R.no) = _
  have hb : ∀ st', backS [] st st' true = st := fun st' => by unfold backS writeBack; simp
  have hb2 : ∀ st', backS [] st st' false = st ++ st'.map (mapO (unD [] st.length)) := fun st' => by unfold backS writeBack; simp
  have hc : ∀ st', closedS 0 st' = true := fun st' => rfl
  simp only [hb, hb2, hc, if_true]
theorem new_frozen {P : Tab} {cf : CallF} {c : String} {C : ClsR} {F : Fn} {args ds : List D} {st : Store} {fs : List (String × D)} {gs : List (String × T)} {more : Store} (hC : P.cls c = some C) (hz : C.frozen = true) (hF : P.fn C.init = some F) (hn : fill F (.h 0 :: args) = some (.h 0 :: ds)) (ht : ∀ d ∈ ds, ∃ x, d = D.t x) (h : cf C.init (.h 0 :: ds) [.ins c []] = .ok (.t .non) (O.ins c fs :: more)) (hg : freezeFs fs = some gs) :
    newD P cf c args st = .ok (.t (.ins c gs)) st := by
  rw [new_0 hC hF hn ht, h]
  simp [hz, hg]
theorem new_obj {P : Tab} {cf : CallF} {c : String} {C : ClsR} {F : Fn} {args ds : List D} {st st' : Store} (hC : P.cls c = some C) (hz : C.frozen = false) (hF : P.fn C.init = some F) (hn : fill F (.h 0 :: args) = some (.h 0 :: ds)) (ht : ∀ d ∈ ds, ∃ x, d = D.t x) (h : cf C.init (.h 0 :: ds) [.ins c []] = .ok (.t .non) st') :
    newD P cf c args st = .ok (.h st.length) (st ++ st'.map (mapO (unD [] st.length))) := by
  rw [new_0 hC hF hn ht, h]
  simp [hz]
theorem new_ex {P : Tab} {cf : CallF} {c : String} {C : ClsR} {F : Fn} {args ds : List D} {st st' : Store} {e : Exn} (hC : P.cls c = some C) (hF : P.fn C.init = some F) (hn : fill F (.h 0 :: args) = some (.h 0 :: ds)) (ht : ∀ d ∈ ds, ∃ x, d = D.t x) (h : cf C.init (.h 0 :: ds) [.ins c []] = .ex e st') :
    newD P cf c args st = .ex e st := by
  rw [new_0 hC hF hn ht, h]
/-! ### a loop that looks for the first -/
def firstD (n : Nat) (p : Nat → Bool) (out : Nat → D) : Option D := ((List.range n).find? p).map out
theorem firstD_some {n i : Nat} {p : Nat → Bool} {out : Nat → D} (hi : i < n) (hp : p i = true) (h : ∀ j, j < i → p j = false) : firstD n p out = some (out i) := by
  unfold firstD
  rw [List.find?_range_eq_some.mpr ⟨hp, List.mem_range.mpr hi, fun j hj => by rw [h j hj]; rfl⟩]
  rfl
theorem firstD_none {n : Nat} {p : Nat → Bool} {out : Nat → D} (h : ∀ j, j < n → p j = false) : firstD n p out = none := by
  unfold firstD
  rw [List.find?_eq_none.mpr fun j hj => by rw [h j (List.mem_range.mp hj)]; decide]
  rfl
theorem En_find {it : It} {n : Nat} {v : Nat → D} {tg : Tg} {body : Ice.Env → Store → Fw} {ρ : Ice.Env} {st : Store} (Keep : Ice.Env → Prop) (p : Nat → Bool) (out : Nat → D) (hg : ∀ i, getI st i it = some (if i < n then some (v i) else none)) (hn : lenI st it = n) (h0 : Keep ρ)
    (hs : ∀ i, i < n → ∀ ρ, Keep ρ → ∃ ρ', bindT tg (v i) ρ = some ρ' ∧ ∃ ρ'', Keep ρ'' ∧ body ρ' st = if p i then .rt (out i) st else .nx ρ'' st) :
    En (forL it tg body (lenI st it) 0 ρ st) (fun ρ' st' => firstD n p out = none ∧ Keep ρ' ∧ st' = st) (fun d st' => firstD n p out = some d ∧ st' = st) := by
  rw [hn]
  refine En_for (v := v) (fun i ρ' st' => (∀ j, j < i → p j = false) ∧ Keep ρ' ∧ st' = st) (fun i ρ' st' h => by rw [h.2.2]; exact hg i) (fun i hi ρ' st' h => ?_) (fun ρ' st' h => ⟨firstD_none h.1, h.2.1, h.2.2⟩) n 0 ρ st (Nat.zero_add n) ⟨by omega, h0, rfl⟩
  obtain ⟨h1, h2, rfl⟩ := h
  obtain ⟨ρ2, e1, ρ3, e2, e3⟩ := hs i hi ρ' h2
  refine ⟨ρ2, e1, ?_⟩
  rw [e3]
  by_cases c : p i = true
  · rw [if_pos c]
    exact ⟨firstD_some hi c h1, rfl⟩
  · rw [if_neg c]
    refine ⟨fun j hj => ?_, e2, rfl⟩
    by_cases hji : j = i
    · subst hji; simpa using c
    · exact h1 j (by omega)
/-- the same, behind which a value is given -/
theorem find_ret {P : Tab} {cf : CallF} {s : Src} {tg : Tg} {b r : Sms} {it : It} {n : Nat} {v : Nat → D} {ρ : Ice.Env} {st : Store} {dflt : D} (Keep : Ice.Env → Prop) (p : Nat → Bool) (out : Nat → D) (hi : evalI P cf s ρ st = .ok it st) (hg : ∀ i, getI st i it = some (if i < n then some (v i) else none)) (hn : lenI st it = n) (h0 : Keep ρ)
    (hs : ∀ i, i < n → ∀ ρ, Keep ρ → ∃ ρ', bindT tg (v i) ρ = some ρ' ∧ ∃ ρ'', Keep ρ'' ∧ execSs P cf b ρ' st = if p i then .rt (out i) st else .nx ρ'' st)
    (hr : ∀ ρ', Keep ρ' → execSs P cf r ρ' st = .rt dflt st) : execSs P cf (.cons (.for_ tg s b) r) ρ st = .rt ((firstD n p out).getD dflt) st := by
  have key := En_find (body := fun ρ st => execSs P cf b ρ st) Keep p out hg hn h0 hs
  rw [execSs, execS, hi, Fw.of_ok]
  cases hb : forL it tg (fun ρ st => execSs P cf b ρ st) (lenI st it) 0 ρ st with
  | nx ρ' st' =>
    rw [hb] at key
    obtain ⟨h1, h2, rfl⟩ := key
    rw [Fw.nxt_nx, hr ρ' h2, h1]
    rfl
  | rt d st' =>
    rw [hb] at key
    obtain ⟨h1, rfl⟩ := key
    rw [h1]
    rfl
  | bk _ _ => rw [hb] at key; exact key.elim
  | ex _ _ => rw [hb] at key; exact key.elim
  | no => rw [hb] at key; exact key.elim
section
variable {P : Tab} {cf : CallF} {ρ ρ' : Ice.Env} {st st' st'' : Store} {a : Ex} {x : D} {p q r : Sms} {e : Exn}
theorem s_if_rt {P : Tab} {cf : CallF} {ρ : Ice.Env} {st st' st'' : Store} {a : Ex} {x : D} {p q r : Sms} (ha : evalE P cf a ρ st = .ok (B true) st') (h : execSs P cf p ρ st' = .rt x st'') : execSs P cf (.cons (.if_ a p q) r) ρ st = .rt x st'' := by
  rw [execSs, x_if_t ha, h]
  rfl
theorem s_if_ex (ha : evalE P cf a ρ st = .ok (B true) st') (h : execSs P cf p ρ st' = .ex e st'') : execSs P cf (.cons (.if_ a p q) r) ρ st = .ex e st'' := by
  rw [execSs, x_if_t ha, h]
  rfl
theorem s_ex_ex (h : evalE P cf a ρ st = .ex e st') : execSs P cf (.cons (.ex a) r) ρ st = .ex e st' := by
  rw [execSs, execS, h]
  rfl
theorem s_raise {c : String} {R : ExcR} {t : T} (ha : evalE P cf a ρ st = .ok (.t t) st') (hc : P.exc c = some R) (hf : R.flds = ["value"]) : execSs P cf (.cons (.raise c (.cons a .nil)) r) ρ st = .ex (exOf c t) st' := by
  rw [execSs, x_raise (es_cons0 ha es_nil0) (ex := exOf c t)]
  · rfl
  · unfold mkExn
    rw [hc]
    show (match R.flds, [t] with
      | [f], [x] => some (⟨c, [(f, x)]⟩ : Exn)
      | [f, g], [x, y] => some ⟨c, [(g, y), (f, x)]⟩
      | _, _ => none) = _
    rw [hf]
    rfl
theorem s_ret_ex (h : evalE P cf a ρ st = .ex e st') : execSs P cf (.cons (.ret a) r) ρ st = .ex e st' := by
  rw [execSs, execS, h]
  rfl
end
def inB (x : T) (a b : Int) : Bool := match x with
  | .int i => decide (a ≤ i) && decide (i ≤ b)
  | _ => false
/-- what a number is drawn as, or what is none -/
def Scal (x : T) : Prop := (∃ i, x = .int i) ∨ x = .non ∨ ∃ b, x = .bl b
end Pl
end

section
set_option Elab.async false
set_option linter.all false
set_option maxRecDepth 100000
set_option maxHeartbeats 4000000
namespace K12
open PySem Ice Pl
section
variable {st : Store} {cf : CallF} {ρ : Ice.Env}
theorem s_int {n : Nat} {i : Int} {st : Store} : callD TT (callN TT (n + 1)) "is_integer" [.t (.int i)] st = .ok (B true) st :=
  call_tree (F := F_is_integer) (st' := []) rfl rfl (by simp) rfl
theorem s_within {n : Nat} {i a b : Int} {st : Store} : callD TT (callN TT (n + 2)) "is_within" [.t (.int i), .t (.int a), .t (.int b)] st = .ok (B (decide (a ≤ i) && decide (i ≤ b))) st := by
  refine call_tree (F := F_is_within) (st' := []) rfl rfl (by simp) ?_
  rw [callN_succ (F := F_is_within) rfl rfl]
  simp [F_is_within, F_is_within_0, execSs, execS, evalE, evalEs, startE, s_int]
  cases h : decide (a ≤ i) <;> simp [h]
theorem s_is_row {n : Nat} {x : T} {xs : List T} (h : Sq x xs) {st : Store} : callD TT (callN TT (n + 1)) "is_row" [.t x] st = .ok (B true) st := by
  rcases h with rfl | rfl <;> exact call_tree (F := F_is_row) (st' := []) rfl rfl (by simp) rfl
theorem s_taken0 {n : Nat} {ns : List Int} {i s r m : Int} (hi : 0 ≤ i) (hm : 0 < m) (hm2 : m < 1073741824) :
    Ok (callN TT (n + 1) "_law_taken" [.h 0, I m] [RO ns i s r]) (TQ ns m) := by
  have hmod : ∀ x : Int, 0 ≤ x % m ∧ x % m < m := fun x => ⟨Int.emod_nonneg x (by omega), Int.emod_lt_of_pos x hm⟩
  rw [callN_succ (F := F__law_taken) rfl rfl]
  simp only [F__law_taken, F__law_taken_0, startE]
  simp [execSs, execS, evalE, evalEs, biD, one, ro_3]
  by_cases c0 : 0 < r
  · simp [c0, F__law_taken_0a_0, F__law_taken_0a_1, F__law_taken_0a_2, execSs, execS, evalE, evalEs, biD, one, ro_3, int_int, hm, hm2, bindT, ro_s3]
    exact ⟨_, _, _, _, rfl, (hmod r).1, (hmod r).2, hi, rfl⟩
  · simp [c0, F__law_taken_1, execSs, execS, evalE, evalEs, biD, one, ro_1, ro_s1]
    unfold F__law_taken_2
    simp [execSs, execS, evalE, evalEs, biD, one, ro_1, ro_0, scr_len]
    by_cases c1 : (ns.length : Int) < i + 1
    · simp [c1, F__law_taken_2a_0, F__law_taken_2a_1, execSs, execS, evalE, evalEs, biD, one, ro_2, ro_s2, int_int, hm]
      exact ⟨_, _, _, _, rfl, (hmod _).1, (hmod _).2, by omega, rfl⟩
    · simp [c1, F__law_taken_3, F__law_taken_4, execSs, execS, evalE, evalEs, biD, one, ro_1, ro_0, ro_2, ro_s2, int_int, bindT, scr_sub hi (by omega : i < ns.length)]
      generalize ns[i.toNat]?.getD 0 = cell
      unfold F__law_taken_5
      simp [execSs, execS, evalE]
      by_cases c2 : (1000000000000000000 : Int) ≤ cell
      · simp [c2, F__law_taken_5a_0, F__law_taken_6, execSs, execS, evalE, evalEs, biD, one, hm, hm2, ro_s3, int_int]
        exact ⟨_, _, _, _, rfl, (hmod _).1, (hmod _).2, by omega, rfl⟩
      · simp [c2, F__law_taken_6, execSs, execS, evalE, evalEs, biD, one, hm, int_int]
        exact ⟨_, _, _, _, rfl, (hmod _).1, (hmod _).2, by omega, rfl⟩
theorem s_taken {n : Nat} {ns : List Int} {o : O} {st : Store} {m : Int} (ho : Row ns o) (hm : 0 < m) (hm2 : m < 1073741824) :
    Ok (callD TT (callN TT (n + 1)) "_law_taken" [.h 0, I m] (o :: st)) fun d st' => ∃ v o', d = I v ∧ 0 ≤ v ∧ v < m ∧ Row ns o' ∧ st' = o' :: st := by
  obtain ⟨i, s, r, rfl, hi⟩ := ho
  obtain ⟨d, st', e, v, i', s', r', rfl, h0, h1, h2, rfl⟩ := (s_taken0 (n := n) (ns := ns) (s := s) (r := r) hi hm hm2).eq
  rw [call_fill (F := F__law_taken) rfl rfl]
  unfold callD0
  have hr : reach (RO ns i s r :: st) [.h 0, I m] = [0] := rfl
  have hk : okKs [0] (RO ns i s r :: st) [.h 0, I m] = true := by
    unfold okKs
    simp [inKs, objIn, RO]
  have hs : subS [0] (RO ns i s r :: st) = [RO ns i s r] := rfl
  have ha : [D.h 0, I m].map (renD [0]) = [.h 0, I m] := rfl
  rw [hr]
  simp only [hk, hs, ha, e]
  rw [if_neg (by decide)]
  show Ok (R.ok (D.t (.int v)) (backS [0] (RO ns i s r :: st) [RO ns i' s' r'] (closedS 1 [RO ns i' s' r']))) _
  have hb : backS [0] (RO ns i s r :: st) [RO ns i' s' r'] (closedS 1 [RO ns i' s' r']) = RO ns i' s' r' :: st := by
    rw [show closedS 1 [RO ns i' s' r'] = true from rfl]
    unfold backS
    rw [if_pos rfl, List.append_nil]
    rfl
  rw [hb]
  exact ⟨v, _, rfl, h0, h1, ⟨i', s', r', rfl, h2⟩, rfl⟩
theorem s_pick {n : Nat} {ns : List Int} {o : O} {st : Store} {xs : List T} (ho : Row ns o) (hx : 0 < xs.length) (hx2 : xs.length ≤ 1000) :
    Ok (callD TT (callN TT (n + 2)) "_law_pick" [.h 0, .t (.lst xs)] (o :: st)) fun d st' => ∃ x o', x ∈ xs ∧ d = .t x ∧ Row ns o' ∧ st' = o' :: st := by
  have key : Ok (callN TT (n + 2) "_law_pick" [.h 0, .t (.lst xs)] [o]) fun d st' => ∃ x o', x ∈ xs ∧ d = .t x ∧ Row ns o' ∧ st' = [o'] := by
    rw [callN_succ (F := F__law_pick) rfl rfl]
    simp [F__law_pick, F__law_pick_0, execSs, execS, evalE, evalEs, startE, biD, one, lenD]
    refine (s_taken (n := n) (st := []) (m := (xs.length : Int)) ho (by omega) (by omega)).mono ?_
    rintro d st' ⟨v, o', rfl, h0, h1, h2, rfl⟩
    rw [sub_sq (.inl rfl) [o'] h0 h1]
    have hl : v.toNat < xs.length := by omega
    have hd : xs.getD v.toNat .non ∈ xs := by simp [hl]
    exact ⟨_, rfl, _, hd, rfl, o', h2, rfl⟩
  obtain ⟨d, st', e, x, o', hx, rfl, ⟨i', s', r', rfl, h2⟩, rfl⟩ := key.eq
  obtain ⟨i, s, r, rfl, hi⟩ := ho
  rw [call_fill (F := F__law_pick) rfl rfl]
  unfold callD0
  have hr : reach (RO ns i s r :: st) [.h 0, .t (.lst xs)] = [0] := rfl
  have hk : okKs [0] (RO ns i s r :: st) [.h 0, .t (.lst xs)] = true := by
    unfold okKs
    simp [inKs, objIn, RO]
  have hs : subS [0] (RO ns i s r :: st) = [RO ns i s r] := rfl
  have ha : [D.h 0, .t (.lst xs)].map (renD [0]) = [.h 0, .t (.lst xs)] := rfl
  rw [hr]
  simp only [hk, hs, ha, e]
  rw [if_neg (by decide)]
  show Ok (R.ok (D.t x) (backS [0] (RO ns i s r :: st) [RO ns i' s' r'] (closedS 1 [RO ns i' s' r']))) _
  have hb : backS [0] (RO ns i s r :: st) [RO ns i' s' r'] (closedS 1 [RO ns i' s' r']) = RO ns i' s' r' :: st := by
    rw [show closedS 1 [RO ns i' s' r'] = true from rfl]
    unfold backS
    rw [if_pos rfl, List.append_nil]
    rfl
  rw [hb]
  exact ⟨x, _, hx, rfl, ⟨i', s', r', rfl, h2⟩, rfl⟩
def Al (n : Nat) (x : T) : Prop := ∀ st, callD TT (callN TT n) "_law_alike" [.t x, .t x] st = .ok (B true) st
theorem al_int {n : Nat} {i : Int} : Al (n + 1) (.int i) := by
  intro st
  refine call_tree (F := F__law_alike) (st' := []) rfl rfl (by simp) ?_
  rw [callN_succ (F := F__law_alike) rfl rfl]
  simp [F__law_alike, F__law_alike_0, F__law_alike_1, F__law_alike_2, F__law_alike_3, execSs, execS, evalE, evalEs, startE, faceD, faceT, tagOk, tagIs, T.isNon]
  have hb : cmpD [] .eq (B false) (B false) = some true := rfl
  simp [hb]
theorem al_bl {n : Nat} {b : Bool} : Al (n + 1) (.bl b) := by
  intro st
  refine call_tree (F := F__law_alike) (st' := []) rfl rfl (by simp) ?_
  rw [callN_succ (F := F__law_alike) rfl rfl]
  cases b <;> rfl
theorem al_seq {n : Nat} {x : T} {xs : List T} (h : Sq x xs) (hl : xs.length ≤ 1000000) (ha : ∀ y ∈ xs, Al n y) : Al (n + 1) x := by
  intro st
  refine call_tree (F := F__law_alike) (st' := []) rfl rfl (by simp) ?_
  rw [callN_succ (F := F__law_alike) rfl rfl]
  refine Ok.eq1 ?_
  have hev : ∀ {x : T}, Sq x xs → evalE TT (callN TT n) (.fr (.comp (.var 2) (.nm 2) (.range (.cons (.bi .len (.cons (.var 1) .nil)) .nil)) (.som (.nt (.call "_law_alike" (.cons (.sub (.var 0) (.var 2)) (.cons (.sub (.var 1) (.var 2)) .nil))))) [2])) [some (.t x), some (.t x), none, none] [] = .ok (.t (.lst [])) [] := by
    intro x h
    have hlen : evalE TT (callN TT n) (.bi .len (.cons (.var 1) .nil)) [some (.t x), some (.t x), none, none] [] = .ok (I xs.length) [] := by
      simp [evalE, evalEs, biD, one, len_sq h]
    unfold evalE evalL
    rw [evI_range1 hlen (by omega), R.bind_ok]
    rw [show ((xs.length : Nat) : Int).toNat = xs.length from by omega, comp_r (fun i => I i) (fun _ => false)]
    · simp [trees]
    · intro i hi
      have hm : xs[i] ∈ xs := List.getElem_mem hi
      have hs := sub_sq h [] (i := (i : Int)) (by omega) (by omega)
      have hg : xs.getD (i : Int).toNat .non = xs[i] := by simp [hi]
      rw [hg] at hs
      simp [bindT, wipeE, condO, evalE, evalEs, hs, ha _ hm []]
    · exact hl
  have hb : cmpD [] .ne (B false) (B false) = some false := rfl
  have hb2 : cmpD [] .ne (B true) (B true) = some false := rfl
  have hb3 : cmpD [] .eq (.t (.lst [])) (.t (.lst [])) = some true := rfl
  have hd : ∀ ρ, evalE TT (callN TT n) (.fr (.disp .nil)) ρ [] = .ok (.t (.lst [])) [] := fun ρ => rfl
  rcases h with rfl | rfl
  · simp [F__law_alike, F__law_alike_0, F__law_alike_0a_0, F__law_alike_0a_1, execSs, execS, evalE, evalEs, startE, faceD, faceT, tagOk, tagIs, biD, one, lenD, cmp_ne, hb, hb2]
    unfold F__law_alike_0a_2
    simp only [execSs, execS]
    rw [evalE, hev (.inl rfl), R.bind_ok, hd, R.bind_ok, hb3]
    exact ⟨rfl, rfl⟩
  · simp [F__law_alike, F__law_alike_0, F__law_alike_0a_0, F__law_alike_0a_1, execSs, execS, evalE, evalEs, startE, faceD, faceT, tagOk, tagIs, biD, one, lenD, cmp_ne, hb, hb2]
    unfold F__law_alike_0a_2
    simp only [execSs, execS]
    rw [evalE, hev (.inr rfl), R.bind_ok, hd, R.bind_ok, hb3]
    exact ⟨rfl, rfl⟩
def Refuses (f c : String) (x : T) : Prop := ∀ (k : Nat) (st : Store), callD TT (callN TT (k + 8)) f [.t x] st = .ex (exOf c x) st
def Fin (k : Nat) (F : Sms) (ρ : Ice.Env) (st : Store) : Prop := En (execSs TT (callN TT (k + 8)) F ρ st) (fun _ _ => False) (fun d _ => d = B true)
theorem ev_repr {cf : CallF} {E : Ex} {ρ : Ice.Env} {st : Store} {x : T} {s : Str} (hE : evalE TT cf E ρ st = .ok (.t x) st) (hs : reprD (.t x) = some (.t (.str s))) : evalE TT cf (.bi .repr (.cons E .nil)) ρ st = .ok (.t (.str s)) st := by
  rw [evalE, evalEs, hE]
  show ofOpt st (reprD (.t x)) = _
  rw [hs]
  rfl
theorem ev_call2 {cf : CallF} {f : String} {A B : Ex} {ρ : Ice.Env} {st : Store} {x y : D} (ha : evalE TT cf A ρ st = .ok x st) (hb : evalE TT cf B ρ st = .ok y st) : evalE TT cf (.call f (.cons A (.cons B .nil))) ρ st = callD TT cf f [x, y] st := by
  simp only [evalE, evalEs, ha, hb, R.bind_ok]
theorem ev_var {cf : CallF} {i : Nat} {ρ : Ice.Env} {st : Store} {d : D} (h : ρ[i]? = some (some d)) : evalE TT cf (.var i) ρ st = .ok d st := by
  simp only [evalE, h]
theorem ev_call1 {f : String} {A : Ex} {x : D} (ha : evalE TT cf A ρ st = .ok x st) : evalE TT cf (.call f (.cons A .nil)) ρ st = callD TT cf f [x] st := by
  simp only [evalE, evalEs, ha, R.bind_ok]
theorem ev_tup3 {A B C : Ex} {x y z : T} (ha : evalE TT cf A ρ st = .ok (.t x) st) (hb : evalE TT cf B ρ st = .ok (.t y) st) (hc : evalE TT cf C ρ st = .ok (.t z) st) : evalE TT cf (.tup (.cons A (.cons B (.cons C .nil)))) ρ st = .ok (.t (.tup [x, y, z])) st := by
  simp [evalE, evalEs, ha, hb, hc, few, trees]
theorem ev_tup2 {A B : Ex} {x y : T} (ha : evalE TT cf A ρ st = .ok (.t x) st) (hb : evalE TT cf B ρ st = .ok (.t y) st) : evalE TT cf (.tup (.cons A (.cons B .nil))) ρ st = .ok (.t (.tup [x, y])) st := by
  simp [evalE, evalEs, ha, hb, few, trees]
end
end K12
end

section
set_option Elab.async false
set_option linter.all false
set_option maxRecDepth 100000
set_option maxHeartbeats 4000000
namespace K12
open PySem Ice Pl Nd
/-- a day that House takes -/
def DayOk (d : Day) : Prop := (0 ≤ d.p ∧ d.p ≤ 50) ∧ (0 ≤ d.m ∧ d.m ≤ 20) ∧ (0 ≤ d.r ∧ d.r ≤ 9) ∧ 0 ≤ d.g ∧ d.g ≤ 5
theorem s_is_day {n : Nat} {d : Day} (h : DayOk d) {st : Store} : callD TT (callN TT (n + 3)) "is_day" [.t d.t] st = .ok (B true) st := by
  refine call_tree (F := F_is_day) (st' := []) rfl rfl (by simp) ?_
  rw [callN_succ (F := F_is_day) rfl rfl]
  obtain ⟨p, m, r, g⟩ := d
  obtain ⟨⟨h1, h2⟩, ⟨h3, h4⟩, ⟨h5, h6⟩, h7, h8⟩ := h
  simp only at h1 h2 h3 h4 h5 h6 h7 h8
  have e1 : callD TT (callN TT (n + 2)) "is_tuple_of" [.t (Day.t ⟨p, m, r, g⟩), I 4] [] = .ok (B true) [] := by
    refine call_tree (F := F_is_tuple_of) (st' := []) rfl rfl (by simp) ?_
    rfl
  have w1 : ∀ a b : Int, 0 ≤ a → a ≤ b → callD TT (callN TT (n + 2)) "is_within" [I a, I 0, I b] [] = .ok (B true) [] := by
    intro a b h1 h2
    rw [s_within]
    simp [h1, h2]
  have hm : TT.con "MOSTS" = some (.wt [.int 50, .int 20, .int 9, .int 5]) := rfl
  show endF (execSs TT (callN TT (n + 2)) F_is_day_0 [some (.t (Day.t ⟨p, m, r, g⟩)), none, none] []) = _
  have hc : evalE TT (callN TT (n + 2)) (.fr (.comp (.call "is_within" (.cons (.var 1) (.cons (.lit (.int 0)) (.cons (.var 2) .nil)))) (.tp (.cons (.nm 1) (.cons (.nm 2) .nil))) (.zip (.var 0) (.glb "MOSTS")) .non [1, 2])) [some (.t (Day.t ⟨p, m, r, g⟩)), none, none] [] = .ok (.t (.lst (List.replicate 4 (.bl true)))) [] := by
    have hi : evalI TT (callN TT (n + 2)) (.zip (.var 0) (.glb "MOSTS")) [some (.t (Day.t ⟨p, m, r, g⟩)), none, none] [] = .ok (.zp (.xs ([T.int p, .int m, .int r, .int g].map D.t)) (.xs ([T.int 50, .int 20, .int 9, .int 5].map D.t))) [] := by
      simp only [evalI, evalE, hm]
      rfl
    rw [evalE, evalL, hi, R.bind_ok]
    rw [comp_zm (α := Int × Int) [(p, 50), (m, 20), (r, 9), (g, 5)] (fun q => .t (.tup [.int q.1, .int q.2])) (fun _ => B true) rfl]
    · rfl
    · intro q hq
      have hb : 0 ≤ q.1 ∧ q.1 ≤ q.2 := by
        simp only [List.mem_cons, List.not_mem_nil, or_false] at hq
        rcases hq with rfl | rfl | rfl | rfl <;> exact ⟨by assumption, by assumption⟩
      show (ofOpt [] (some [some (.t (Day.t ⟨p, m, r, g⟩)), some (I q.1), some (I q.2)])).bind _ = _
      rw [ofOpt_some, R.bind_ok]
      simp only [condO, R.bind_ok]
      rw [e_call3 (ve 1 rfl) (st'' := []) (y := I 0) rfl (ve 2 rfl), w1 q.1 q.2 hb.1 hb.2]
      rfl
    · simp
  unfold F_is_day_0
  rw [s_ret (e_and_t (st' := []) (by rw [e_call2 (ve 0 rfl) (st'' := []) (y := I 4) rfl]; exact e1) |>.trans (e_bi hc (z := B true) rfl))]
  rfl
/-! ### days, numbers, a house -/
theorem sq_ds {ds : List Day} : Sq (dsT ds) (ds.map Day.t) := .inr rfl
def DaysOk (ds : List Day) : Prop := (1 ≤ ds.length ∧ ds.length ≤ 12) ∧ ∀ d ∈ ds, DayOk d
theorem s_check_days {n : Nat} {ds : List Day} (h : DaysOk ds) {st : Store} : callD TT (callN TT (n + 4)) "check_days" [.t (dsT ds)] st = .ok (.t .non) st := by
  refine call_tree (F := F_check_days) (st' := []) rfl rfl (by simp) ?_
  rw [callN_succ (F := F_check_days) rfl rfl]
  show endF (execSs TT (callN TT (n + 3)) F_check_days_0 [some (.t (dsT ds)), none, none] []) = _
  have hlen : evalE TT (callN TT (n + 3)) (.bi .len (.cons (.var 0) .nil)) [some (.t (dsT ds)), none, none] [] = .ok (I ds.length) [] := by
    rw [e_bi (ve 0 rfl) (z := I ds.length)]
    show (lenD [] (.t (dsT ds))) = _
    rw [len_sq sq_ds]
    simp
  have hM : TT.con "MOST_DAYS" = some (.int 12) := rfl
  unfold F_check_days_0
  have hc : evalE TT (callN TT (n + 3)) (.or2 (.nt (.call "is_row" (.cons (.var 0) .nil))) (.nt (.chain .le .le (.lit (.int 1)) (.bi .len (.cons (.var 0) .nil)) (.glb "MOST_DAYS")))) [some (.t (dsT ds)), none, none] [] = .ok (B false) [] := by
    rw [e_or_f (st' := [])]
    · rw [e_nt (k := true) (st' := [])]
      · rfl
      · have h1 := h.1.1
        have h2 := h.1.2
        exact e_chain_t (x := I 1) (st' := []) rfl hlen (by rw [cmp_le, decide_eq_true (by omega)]) (e_glb hM) (by rw [cmp_le, decide_eq_true (by omega)])
    · rw [e_nt (k := true) (st' := [])]
      · rfl
      · rw [e_call1 (ve 0 rfl)]
        exact s_is_row sq_ds
  rw [s_cons (x_if0 hc)]
  unfold F_check_days_1
  refine Ok.eq1 ?_
  rw [Ok_endF]
  have hi : evalI TT (callN TT (n + 3)) (.enum (.var 0)) [some (.t (dsT ds)), none, none] [] = .ok (.en (.xs ((ds.map Day.t).map D.t))) [] := rfl
  show En (execSs TT (callN TT (n + 3)) (.cons (.for_ (.tp (.cons (.nm 1) (.cons (.nm 2) .nil))) (.enum (.var 0)) F_check_days_1a_0) .nil) [some (.t (dsT ds)), none, none] []) _ _
  rw [execSs, execS, hi, En_nxt]
  show En (forL _ _ _ _ _ _ _) _ _
  refine En_for_em (ds.zipIdx) (fun q : Day × Nat => .t (.tup [.int (q.2 : Int), q.1.t])) (by rw [List.zipIdx_map]; simp [enT]) (fun _ ρ st => Same [1, 2] [some (.t (dsT ds)), none, none] ρ ∧ st = []) ⟨Same.refl, rfl⟩ (fun i hi ρ st hJ => ?_) (fun ρ st hJ => ?_)
  · obtain ⟨hS, rfl⟩ := hJ
    have hl := hS.1
    refine ⟨(ρ.set 1 (some (I (ds.zipIdx[i].2 : Int)))).set 2 (some (.t ds.zipIdx[i].1.t)), ?_, ?_⟩
    · have hl' : ρ.length = 3 := hl
      simp [bindT, bindTs, hl']
    · have hm : ds.zipIdx[i].1 ∈ ds := by
        have hi' : i < ds.length := by simpa using hi
        simp
      unfold F_check_days_1a_0
      rw [s_cons (x_if0 (e_nt (k := true) ?_))]
      · exact ⟨(hS.set (by simp)).set (by simp), rfl⟩
      · rw [e_call1 (ve 2 (d := .t ds.zipIdx[i].1.t) ?_)]
        · exact s_is_day (h.2 _ hm)
        · rw [List.getElem?_set_self]
          have hl' : ρ.length = 3 := hl
          simp [hl']
  · exact ⟨rfl, hJ.2⟩
end K12
end

section
set_option Elab.async false
set_option linter.all false
set_option maxRecDepth 100000
set_option maxHeartbeats 4000000
namespace K12
open PySem Ice Pl Nd
def NumOk (w dr s : Int) : Prop := (0 ≤ w ∧ w ≤ 12) ∧ (0 ≤ dr ∧ dr ≤ 9) ∧ 0 ≤ s ∧ s ≤ 8
theorem s_check_numbers {n : Nat} {w dr s : Int} (h : NumOk w dr s) {st : Store} : callD TT (callN TT (n + 3)) "check_numbers" [I w, I dr, I s] st = .ok (.t .non) st := by
  refine call_tree (F := F_check_numbers) (st' := []) rfl rfl (by simp) ?_
  rw [callN_succ (F := F_check_numbers) rfl rfl]
  show endF (execSs TT (callN TT (n + 2)) F_check_numbers_0 [some (I w), some (I dr), some (I s)] []) = _
  obtain ⟨⟨h1, h2⟩, ⟨h3, h4⟩, h5, h6⟩ := h
  have c : ∀ (i : Nat) (x m : Int) (g : String), ([some (I w), some (I dr), some (I s)] : Ice.Env)[i]? = some (some (I x)) → 0 ≤ x → x ≤ m → TT.con g = some (.int m) → evalE TT (callN TT (n + 2)) (.nt (.call "is_within" (.cons (.var i) (.cons (.lit (.int 0)) (.cons (.glb g) .nil))))) [some (I w), some (I dr), some (I s)] [] = .ok (B false) [] := by
    intro i x m g hi h0 h1 hg
    refine e_nt (k := true) ?_
    rw [e_call3 (ve i hi) (y := I 0) (st'' := []) rfl (e_glb hg)]
    rw [s_within]
    simp [h0, h1]
  unfold F_check_numbers_0
  rw [s_cons (x_if0 (c 0 w 12 "MOST_WARMTH" rfl h1 h2 rfl))]
  unfold F_check_numbers_1
  rw [s_cons (x_if0 (c 1 dr 9 "MOST_DOOR" rfl h3 h4 rfl))]
  unfold F_check_numbers_2
  rw [s_cons (x_if0 (c 2 s 8 "MOST_STRAW" rfl h5 h6 rfl))]
  rfl
def houseT (ds : List Day) (w dr s : Int) : T := .ins "House" [("days", dsT ds), ("warmth", .int w), ("door", .int dr), ("straw", .int s)]
theorem s_house {n : Nat} {ds : List Day} {w dr s : Int} (hd : DaysOk ds) (hn : NumOk w dr s) {st : Store} : newD TT (callN TT (n + 5)) "House" [.t (dsT ds), I w, I dr, I s] st = .ok (.t (houseT ds w dr s)) st := by
  have key : callN TT (n + 5) "House.__init__" [.h 0, .t (dsT ds), I w, I dr, I s] [.ins "House" []] = .ok (.t .non) [.ins "House" [("days", .t (dsT ds)), ("warmth", I w), ("door", I dr), ("straw", I s)]] := by
    rw [callN_succ (F := F_House___init__) rfl rfl]
    show endF (execSs TT (callN TT (n + 4)) F_House___init___0 [some (.h 0), some (.t (dsT ds)), some (I w), some (I dr), some (I s)] [.ins "House" []]) = _
    unfold F_House___init___0
    rw [s_cons (x_ex (by rw [e_call1 (ve 1 rfl)]; exact s_check_days hd))]
    unfold F_House___init___1
    rw [s_cons (x_ex (by rw [e_call3 (ve 2 rfl) (ve 3 rfl) (ve 4 rfl)]; exact s_check_numbers hn))]
    have ht : evalE TT (callN TT (n + 4)) (.bi .tuple (.cons (.var 1) .nil)) [some (.h 0), some (.t (dsT ds)), some (I w), some (I dr), some (I s)] [.ins "House" []] = .ok (.t (dsT ds)) [.ins "House" []] := by
      rw [e_bi (ve 1 rfl) (z := .t (dsT ds))]
      unfold biD one tupD
      show ((items _ (.t (.tup (ds.map Day.t)))).bind _) = _
      rw [items_tup, Option.bind_some, trees_t]
      rfl
    unfold F_House___init___2
    rw [s_cons (x_setA ht (ve 0 rfl) rfl)]
    unfold F_House___init___3
    rw [s_cons (x_setA (ve 2 rfl) (ve 0 rfl) rfl)]
    unfold F_House___init___4
    rw [s_cons (x_setA (ve 3 rfl) (ve 0 rfl) rfl)]
    unfold F_House___init___5
    rw [s_cons (x_setA (ve 4 rfl) (ve 0 rfl) rfl)]
    rfl
  exact new_frozen (C := ⟨"House.__init__", true, ["days", "warmth", "door", "straw"], ["__eq__", "parts"]⟩) (F := F_House___init__) (ds := [.t (dsT ds), I w, I dr, I s]) rfl rfl rfl rfl (by simp) key rfl
end K12
end

section
set_option Elab.async false
set_option linter.all false
set_option maxRecDepth 100000
set_option maxHeartbeats 4000000
namespace K12
open PySem Ice Pl Nd
def NF (ds : List Day) (door : Int) : List (String × D) := [("days", .t (dsT ds)), ("door", I door), ("last", I (Nd.last ds)), ("known", .h 1)]
def S2 (ds : List Day) (door : Int) (kvs : List (List Int × T)) : Store := [.ins "Needs" (NF ds door), .dT kvs]
theorem day_p {d : Day} {st : Store} : subD st (.t d.t) (I 0) = some (I d.p) := rfl
theorem day_m {d : Day} {st : Store} : subD st (.t d.t) (I 1) = some (I d.m) := rfl
theorem day_r {d : Day} {st : Store} : subD st (.t d.t) (I 2) = some (I d.r) := rfl
theorem day_g {d : Day} {st : Store} : subD st (.t d.t) (I 3) = some (I d.g) := rfl
theorem ds_at {ds : List Day} {k : Nat} (hk : k < ds.length) {st : Store} : subD st (.t (dsT ds)) (I (k : Int)) = some (.t (ds[k]).t) := by
  rw [sub_sq sq_ds st (by omega) (by simpa using hk)]
  simp [hk]
theorem s_needs {n : Nat} {ds : List Day} {door : Int} (hl : ds.length ≤ 1000000) : newD TT (callN TT (n + 1)) "Needs" [.t (dsT ds), I door] [] = .ok (.h 0) (S2 ds door []) := by
  have key : callN TT (n + 1) "Needs.__init__" [.h 0, .t (dsT ds), I door] [.ins "Needs" []] = .ok (.t .non) (S2 ds door []) := by
    rw [callN_succ (F := F_Needs___init__) rfl rfl]
    show endF (execSs TT (callN TT n) F_Needs___init___0 [some (.h 0), some (.t (dsT ds)), some (I door), none, none] [.ins "Needs" []]) = _
    unfold F_Needs___init___0
    rw [s_cons (x_setA (ve 1 rfl) (ve 0 rfl) rfl)]
    unfold F_Needs___init___1
    rw [s_cons (x_setA (ve 2 rfl) (ve 0 rfl) rfl)]
    unfold F_Needs___init___2
    have hc : ∀ st : Store, evalE TT (callN TT n) (.fr (.comp (.var 3) (.tp (.cons (.nm 3) (.cons (.nm 4) .nil))) (.enum (.var 1)) (.som (.cmp .gt (.sub (.var 4) (.lit (.int 0))) (.lit (.int 0)))) [3, 4])) [some (.h 0), some (.t (dsT ds)), some (I door), none, none] st = .ok (.t (.lst (((ds.zipIdx.filter fun q => decide (0 < q.1.p)).map fun q => ((q.2 : Nat) : Int)).map T.int))) st := by
      intro st
      refine e_fr ?_
      have hi : evalI TT (callN TT n) (.enum (.var 1)) [some (.h 0), some (.t (dsT ds)), some (I door), none, none] st = .ok (.en (.xs ((ds.map Day.t).map D.t))) st := rfl
      rw [evalL, hi, R.bind_ok]
      rw [comp_ef (α := Day × Nat) ds.zipIdx (fun q => .t (.tup [.int (q.2 : Int), q.1.t])) (fun q => I (q.2 : Int)) (fun q => decide (0 < q.1.p)) (by rw [List.zipIdx_map]; simp [enT])]
      · simp
      · rintro ⟨d, i⟩ _
        show (ofOpt st (some [some (.h 0), some (.t (dsT ds)), some (I door), some (I (i : Int)), some (.t d.t)])).bind _ = _
        rw [ofOpt_some, R.bind_ok]
        have hcd : condO TT (callN TT n) (.som (.cmp .gt (.sub (.var 4) (.lit (.int 0))) (.lit (.int 0)))) [some (.h 0), some (.t (dsT ds)), some (I door), some (I (i : Int)), some (.t d.t)] st = .ok (decide (0 < d.p)) st := by
          rw [condO, e_cmp (e_sub (ve 4 rfl) (st'' := st) (y := I 0) rfl day_p) (st'' := st) (y := I 0) rfl cmp_gt]
          rfl
        rw [hcd, R.bind_ok]
        by_cases hp : 0 < d.p
        · rw [if_pos (decide_eq_true hp), decide_eq_true hp]
          simp only
          rw [ve 3 rfl]
          rfl
        · rw [if_neg (by simpa using hp), decide_eq_false hp]
      · simpa using hl
    rw [s_cons (x_setA (x := I (Nd.last ds)) (st' := [.ins "Needs" [("days", .t (dsT ds)), ("door", I door)]]) (by
      show evalE TT (callN TT n) (.bik .max _ _) _ [.ins "Needs" [("days", .t (dsT ds)), ("door", I door)]] = _
      rw [evalE, hc, R.bind_ok, e_neg (i := 1) rfl, R.bind_ok, bi_maxk, last_of prom_zip]
      rfl) (ve 0 rfl) rfl)]
    unfold F_Needs___init___3
    rw [s_cons (x_setA (x := .h 1) (st' := [.ins "Needs" [("days", .t (dsT ds)), ("door", I door), ("last", I (Nd.last ds))], .dT []]) (by rw [evalE]; rfl) (ve 0 rfl) rfl)]
    rfl
  rw [new_obj (C := ⟨"Needs.__init__", false, ["days", "door", "last", "known"], ["of", "degrees", "with_sacks", "least"]⟩) (F := F_Needs___init__) (ds := [.t (dsT ds), I door]) rfl rfl rfl rfl (by simp) key]
  rfl
end K12
end

section
set_option Elab.async false
set_option linter.all false
set_option maxRecDepth 100000
set_option maxHeartbeats 4000000
namespace K12
open PySem Ice Pl Nd
theorem s_takenf {n : Nat} {d : Day} {door : Int} {st : Store} : callD TT (callN TT (n + 1)) "taken" [.t d.t, I door] st = .ok (I (own door d)) st := by
  refine call_tree (F := F_taken) (st' := []) rfl rfl (by simp) ?_
  rw [callN_succ (F := F_taken) rfl rfl]
  show endF (execSs TT (callN TT n) F_taken_0 [some (.t d.t), some (I door)] []) = _
  unfold F_taken_0
  have hp : evalE TT (callN TT n) (.sub (.var 0) (.lit (.int 0))) [some (.t d.t), some (I door)] [] = .ok (I d.p) [] := e_sub (ve 0 rfl) (st'' := []) (y := I 0) rfl day_p
  have hc : evalE TT (callN TT n) (.cmp .gt (.sub (.var 0) (.lit (.int 0))) (.lit (.int 0))) [some (.t d.t), some (I door)] [] = .ok (B (decide (0 < d.p))) [] := e_cmp hp (st'' := []) (y := I 0) rfl cmp_gt
  by_cases h : 0 < d.p
  · rw [decide_eq_true h] at hc
    rw [s_ret ((e_ite_t hc).trans (e_bin hp (ve 1 rfl) bin_add))]
    unfold own
    rw [if_pos h]
    rfl
  · rw [decide_eq_false h] at hc
    rw [s_ret (x := I 0) (st' := []) ((e_ite_f hc).trans rfl)]
    unfold own
    rw [if_neg h]
    rfl
theorem s_melted {n : Nat} {d : Day} {i j : Int} (h : i.natAbs < 18446744073709551616) {st : Store} : callD TT (callN TT (n + 1)) "melted" [.t d.t, I i, I j] st = .ok (I (melt d i j)) st := by
  refine call_tree (F := F_melted) (st' := []) rfl rfl (by simp) ?_
  rw [callN_succ (F := F_melted) rfl rfl]
  show endF (execSs TT (callN TT n) F_melted_0 [some (.t d.t), some (I i), some (I j)] []) = _
  unfold F_melted_0
  have hm : evalE TT (callN TT n) (.bi .max (.cons (.lit (.int 0)) (.cons (.bin .sub (.sub (.var 0) (.lit (.int 2))) (.var 2)) .nil))) [some (.t d.t), some (I i), some (I j)] [] = .ok (I (max 0 (d.r - j))) [] :=
    e_bi2 (x := I 0) (st' := []) rfl (e_bin (e_sub (ve 0 rfl) (st'' := []) (y := I 2) rfl day_r) (ve 2 rfl) bin_sub) max2_int
  rw [s_ret (e_bin (e_sub (ve 0 rfl) (st'' := []) (y := I 1) rfl day_m) (e_bin (ve 1 rfl) hm (by rw [bin_mul, if_pos (.inl h)])) bin_add)]
  rfl
/-! ### a method of Needs, called by a method -/
theorem reach_self {ds : List Day} {door : Int} {kvs : List (List Int × T)} {args : List D} (ht : ∀ d ∈ args, ∃ x, d = D.t x) : reach (S2 ds door kvs) (.h 0 :: args) = [0, 1] := by
  show args.foldl (reachD (S2 ds door kvs) 4) [0, 1] = _
  exact reach_trees ht
theorem self_call {n : Nat} {f : String} {F : Fn} {args : List D} {ds : List Day} {door : Int} {kvs kvs' : List (List Int × T)} {x : T} (hF : TT.fn f = some F) (hn : args.length + 1 = F.np) (ht : ∀ d ∈ args, ∃ x, d = D.t x)
    (h : callN TT n f (.h 0 :: args) (S2 ds door kvs) = .ok (.t x) (S2 ds door kvs')) : callD TT (callN TT n) f (.h 0 :: args) (S2 ds door kvs) = .ok (.t x) (S2 ds door kvs') := by
  rw [call_fill hF (by simpa using hn)]
  unfold callD0
  rw [reach_self ht]
  have hk : okKs [0, 1] (S2 ds door kvs) (.h 0 :: args) = true := by
    unfold okKs
    have : (D.h 0 :: args).all (inKs [0, 1]) = true := List.all_eq_true.mpr fun d hd => by
      rcases List.mem_cons.mp hd with rfl | hd
      · rfl
      · obtain ⟨x, rfl⟩ := ht d hd
        rfl
    rw [this]
    rfl
  have ha : (D.h 0 :: args).map (renD [0, 1]) = .h 0 :: args := by
    rw [List.map_cons, ren_trees ht]
    rfl
  have hs : subS [0, 1] (S2 ds door kvs) = S2 ds door kvs := rfl
  simp only [hk, ha, hs, h]
  rw [if_neg (by decide)]
  rfl
section
variable {ds : List Day} {door : Int} {kvs : List (List Int × T)}
theorem at_days : attF TT (S2 ds door kvs) (.h 0) "days" = some (.t (dsT ds)) := rfl
theorem at_door : attF TT (S2 ds door kvs) (.h 0) "door" = some (I door) := rfl
theorem at_last : attF TT (S2 ds door kvs) (.h 0) "last" = some (I (Nd.last ds)) := rfl
theorem at_known : attF TT (S2 ds door kvs) (.h 0) "known" = some (.h 1) := rfl
theorem s_degrees {n k : Nat} {w : Int} (hk : k < ds.length) (hw : -1 ≤ w) (hg : 0 ≤ (ds[k]).g) (hg5 : (ds[k]).g ≤ 5) : callD TT (callN TT (n + 1)) "Needs.degrees" [.h 0, I (k : Int), I w] (S2 ds door kvs) = .ok (.t (.lst ((upto (min (ds[k]).g w)).map T.int))) (S2 ds door kvs) := by
  refine self_call (F := F_Needs_degrees) rfl rfl (by simp) ?_
  rw [callN_succ (F := F_Needs_degrees) rfl rfl]
  show endF (execSs TT (callN TT n) F_Needs_degrees_0 [some (.h 0), some (I k), some (I w)] (S2 ds door kvs)) = _
  unfold F_Needs_degrees_0
  have ha : evalE TT (callN TT n) (.bin .add (.bi .min (.cons (.sub (.sub (.att (.var 0) "days") (.var 1)) (.lit (.int 3))) (.cons (.var 2) .nil))) (.lit (.int 1))) [some (.h 0), some (I k), some (I w)] (S2 ds door kvs) = .ok (I (min (ds[k]).g w + 1)) (S2 ds door kvs) :=
    e_bin (e_bi2 (e_sub (e_sub (e_att (ve 0 rfl) at_days) (ve 1 rfl) (ds_at hk)) (st'' := S2 ds door kvs) (y := I 3) rfl day_g) (ve 2 rfl) min2_int) (st'' := S2 ds door kvs) (y := I 1) rfl bin_add
  rw [s_ret (e_fr (xs := (upto (min (ds[k]).g w)).map T.int) ?_)]
  · rfl
  · rw [evalL, evI_range1 ha (by omega), R.bind_ok]
    have hf : fits (min (ds[k]).g w + 1).toNat = true := decide_eq_true (by omega)
    simp only [allI, hf, if_true, ofOpt_some]
    unfold upto
    simp
/-- with_sacks, of, least: what they give and what they leave -/
def Gives (ds : List Day) (door : Int) (k : Nat) (kvs : List (List Int × T)) (v : Int) (r : R D) : Prop := ∃ kvs', r = .ok (I v) (S2 ds door kvs') ∧ Ext door ds k kvs kvs'
theorem s_with {n k : Nat} {s w i j : Int} (hk : k < ds.length) (hp : hasP (ds.drop k) = true) (hi : 0 ≤ i) (hi5 : i ≤ 5)
    (IH : Gives ds door (k + 1) kvs (N door (ds.drop (k + 1)) (s - j) (w - i)) (callN TT (n + 1) "Needs.of" [.h 0, I ((k + 1 : Nat) : Int), I (s - j), I (w - i)] (S2 ds door kvs))) (hm : Memo door ds kvs) :
    Gives ds door (k + 1) kvs (wi door ds[k] (hasP (ds.drop (k + 1))) (N door (ds.drop (k + 1))) s w i j) (callN TT (n + 2) "Needs.with_sacks" [.h 0, I (k : Int), I s, I w, I i, I j] (S2 ds door kvs)) := by
  rw [callN_succ (F := F_Needs_with_sacks) rfl rfl]
  show Gives _ _ _ _ _ (endF (execSs TT (callN TT (n + 1)) F_Needs_with_sacks_0 [some (.h 0), some (I k), some (I s), some (I w), some (I i), some (I j), none] (S2 ds door kvs)))
  unfold F_Needs_with_sacks_0
  have hd : ∀ ρ : Ice.Env, ρ[0]? = some (some (.h 0)) → ρ[1]? = some (some (I k)) → evalE TT (callN TT (n + 1)) (.sub (.att (.var 0) "days") (.var 1)) ρ (S2 ds door kvs) = .ok (.t (ds[k]).t) (S2 ds door kvs) := fun ρ h0 h1 => e_sub (e_att (ve 0 h0) at_days) (ve 1 h1) (ds_at hk)
  rw [s_cons (x_asg (x := I (own door ds[k])) (st' := S2 ds door kvs) (by rw [e_call2 (hd _ rfl rfl) (e_att (ve 0 rfl) at_door)]; exact s_takenf) (by simp))]
  show Gives _ _ _ _ _ (endF (execSs TT (callN TT (n + 1)) F_Needs_with_sacks_1 [some (.h 0), some (I k), some (I s), some (I w), some (I i), some (I j), some (I (own door ds[k]))] (S2 ds door kvs)))
  have hc : evalE TT (callN TT (n + 1)) (.cmp .eq (.var 1) (.att (.var 0) "last")) [some (.h 0), some (I k), some (I s), some (I w), some (I i), some (I j), some (I (own door ds[k]))] (S2 ds door kvs) = .ok (B (decide ((k : Int) = Nd.last ds))) (S2 ds door kvs) := e_cmp (ve 1 rfl) (e_att (ve 0 rfl) at_last) cmp_eqi
  have h1 := (le_last (k := k)).mpr hp
  have h2 := le_last (ds := ds) (k := k + 1)
  unfold F_Needs_with_sacks_1 F_Needs_with_sacks_1a_0 wi
  by_cases c : hasP (ds.drop (k + 1)) = true
  · have h3 := h2.mpr c
    rw [decide_eq_false (by omega)] at hc
    rw [if_pos c, s_cons (x_if0 hc)]
    unfold F_Needs_with_sacks_2
    obtain ⟨kvs', e, hE⟩ := IH
    refine ⟨kvs', ?_, hE⟩
    have hof : evalE TT (callN TT (n + 1)) (.meth (.var 0) "of" (.cons (.bin .add (.var 1) (.lit (.int 1))) (.cons (.bin .sub (.var 2) (.var 5)) (.cons (.bin .sub (.var 3) (.var 4)) .nil)))) [some (.h 0), some (I k), some (I s), some (I w), some (I i), some (I j), some (I (own door ds[k]))] (S2 ds door kvs) = .ok (I (N door (ds.drop (k + 1)) (s - j) (w - i))) (S2 ds door kvs') := by
      rw [e_meth (cl := "Needs") (ve 0 rfl) rfl rfl rfl (es_cons0 (e_bin (ve 1 rfl) (y := I 1) (st'' := S2 ds door kvs) rfl bin_add) (es_cons0 (e_bin (ve 2 rfl) (ve 5 rfl) bin_sub) (es_cons0 (e_bin (ve 3 rfl) (ve 4 rfl) bin_sub) es_nil0)))]
      exact self_call (F := F_Needs_of) rfl rfl (by simp) e
    rw [s_ret (e_bin (e_bin (ve 6 rfl) (by rw [e_call3 (hd _ rfl rfl) (ve 4 rfl) (ve 5 rfl)]; exact s_melted (by omega)) bin_add) hof bin_add)]
    rfl
  · have h3 : ¬ ((k + 1 : Nat) : Int) ≤ Nd.last ds := fun h => c (h2.mp h)
    rw [decide_eq_true (by omega)] at hc
    rw [if_neg c]
    refine ⟨kvs, ?_, Ext.refl hm⟩
    rw [s_if_rt hc (x := I (own door ds[k])) (st'' := S2 ds door kvs) (s_ret (ve 6 rfl))]
    rfl
end
end K12
end

section
set_option Elab.async false
set_option linter.all false
set_option maxRecDepth 100000
set_option maxHeartbeats 4000000
namespace K12
open PySem Ice Pl Nd
section
variable {ds : List Day} {door : Int} {kvs : List (List Int × T)}
/-- the need of the mornings of day k, whatever is known -/
def OfOk (ds : List Day) (door : Int) (n k : Nat) : Prop := ∀ (s w : Int) (kvs : List (List Int × T)), 0 ≤ s → s ≤ 8 → 0 ≤ w → w ≤ 12 → Memo door ds kvs →
  Gives ds door k kvs (N door (ds.drop k) s w) (callN TT n "Needs.of" [.h 0, I (k : Int), I s, I w] (S2 ds door kvs))
theorem s_least {n k : Nat} {s w i : Int} (hk : k < ds.length) (hp : hasP (ds.drop k) = true) (hi : 0 ≤ i) (hi5 : i ≤ 5) (hiw : i ≤ w) (hs : 0 ≤ s) (hs8 : s ≤ 8) (hw12 : w ≤ 12) (IH : OfOk ds door (n + 1) (k + 1)) (hm : Memo door ds kvs) :
    Gives ds door (k + 1) kvs (lo door ds[k] (ds.drop (k + 1)) s w i) (callN TT (n + 3) "Needs.least" [.h 0, I (k : Int), I s, I w, I i] (S2 ds door kvs)) := by
  rw [callN_succ (F := F_Needs_least) rfl rfl]
  show Gives _ _ _ _ _ (endF (execSs TT (callN TT (n + 2)) F_Needs_least_0 [some (.h 0), some (I k), some (I s), some (I w), some (I i), none] (S2 ds door kvs)))
  unfold F_Needs_least_0
  have hr : evalI TT (callN TT (n + 2)) (.range (.cons (.bin .add (.var 2) (.lit (.int 1))) .nil)) [some (.h 0), some (I k), some (I s), some (I w), some (I i), none] (S2 ds door kvs) = .ok (.rng 0 1 (s + 1).toNat) (S2 ds door kvs) := evI_range1 (e_bin (ve 2 rfl) (y := I 1) (st'' := S2 ds door kvs) rfl bin_add) (by omega)
  have hc : Ok (evalL TT (callN TT (n + 2)) (.comp (.meth (.var 0) "with_sacks" (.cons (.var 1) (.cons (.var 2) (.cons (.var 3) (.cons (.var 4) (.cons (.var 5) .nil)))))) (.nm 5) (.range (.cons (.bin .add (.var 2) (.lit (.int 1))) .nil)) .non [5]) [some (.h 0), some (I k), some (I s), some (I w), some (I i), none] (S2 ds door kvs)) fun ys st' => ys = ((upto s).map fun j => T.int (wi door ds[k] (hasP (ds.drop (k + 1))) (N door (ds.drop (k + 1))) s w i j)).map D.t ∧ ∃ kvs', st' = S2 ds door kvs' ∧ Ext door ds (k + 1) kvs kvs' := by
    rw [evalL, hr, R.bind_ok]
    refine (comp_Jr (fun st => ∃ kvs', st = S2 ds door kvs' ∧ Ext door ds (k + 1) kvs kvs') (fun j => I (wi door ds[k] (hasP (ds.drop (k + 1))) (N door (ds.drop (k + 1))) s w i j)) ⟨kvs, rfl, Ext.refl hm⟩ (fun j hj hjs st => ?_) (by omega)).mono ?_
    · rintro ⟨kv1, rfl, hE⟩
      have hj2 : j ≤ s := by omega
      obtain ⟨kv2, e, hE2⟩ := s_with (kvs := kv1) (n := n) (s := s) (w := w) (j := j) hk hp hi hi5 (IH (s - j) (w - i) kv1 (by omega) (by omega) (by omega) (by omega) hE.memo) hE.memo
      show Ok ((ofOpt (S2 ds door kv1) (some [some (.h 0), some (I k), some (I s), some (I w), some (I i), some (I j)])).bind _) _
      rw [ofOpt_some, R.bind_ok]
      simp only [condO, R.bind_ok]
      have hev : evalE TT (callN TT (n + 2)) (.meth (.var 0) "with_sacks" (.cons (.var 1) (.cons (.var 2) (.cons (.var 3) (.cons (.var 4) (.cons (.var 5) .nil)))))) [some (.h 0), some (I k), some (I s), some (I w), some (I i), some (I j)] (S2 ds door kv1) = .ok (I (wi door ds[k] (hasP (ds.drop (k + 1))) (N door (ds.drop (k + 1))) s w i j)) (S2 ds door kv2) := by
        rw [e_meth (cl := "Needs") (ve 0 rfl) rfl rfl rfl (es_cons0 (ve 1 rfl) (es_cons0 (ve 2 rfl) (es_cons0 (ve 3 rfl) (es_cons0 (ve 4 rfl) (es_cons0 (ve 5 rfl) es_nil0)))))]
        exact self_call (F := F_Needs_with_sacks) rfl rfl (by simp) e
      rw [hev]
      exact ⟨rfl, kv2, rfl, hE.trans hE2⟩
    · rintro ys st' ⟨rfl, h⟩
      refine ⟨?_, h⟩
      unfold upto
      simp
  obtain ⟨ys, st', e, rfl, kv, rfl, hE⟩ := hc.eq
  refine ⟨kv, ?_, hE⟩
  rw [s_ret (e_bi (e_fr e) (z := I (lo door ds[k] (ds.drop (k + 1)) s w i)) ?_)]
  · rfl
  · have := bi_min (st := S2 ds door kv) (l := (upto s).map fun j => wi door ds[k] (hasP (ds.drop (k + 1))) (N door (ds.drop (k + 1))) s w i j) (map_ne (upto_ne hs))
    rw [List.map_map] at this
    exact this
def GOk (ds : List Day) : Prop := ∀ d ∈ ds, 0 ≤ d.g ∧ d.g ≤ 5
theorem needs_of (hg : GOk ds) (hl : ds.length ≤ 12) : ∀ (m n k : Nat), k + m = ds.length → OfOk ds door (n + 3 * m + 1) k := by
  intro m
  induction m with
  | zero =>
    intro n k hk s w kvs h1 h2 h3 h4 hm
    refine ⟨kvs, ?_, Ext.refl hm⟩
    rw [callN_succ (F := F_Needs_of) rfl rfl]
    show endF (execSs TT (callN TT (n + 3 * 0)) F_Needs_of_0 [some (.h 0), some (I k), some (I s), some (I w), none, none] (S2 ds door kvs)) = _
    unfold F_Needs_of_0 F_Needs_of_0a_0
    have hp : hasP (ds.drop k) = false := by rw [List.drop_eq_nil_of_le (by omega)]; rfl
    have hc : evalE TT (callN TT (n + 3 * 0)) (.cmp .gt (.var 1) (.att (.var 0) "last")) [some (.h 0), some (I k), some (I s), some (I w), none, none] (S2 ds door kvs) = .ok (B true) (S2 ds door kvs) := e_cmp (ve 1 rfl) (e_att (ve 0 rfl) at_last) (by
      have := le_last (ds := ds) (k := k)
      rw [hp] at this
      rw [cmp_gt, decide_eq_true (by by_cases c : (k : Int) ≤ Nd.last ds; exact absurd (this.mp c) (by decide); omega)])
    rw [s_if_rt hc (x := I 0) (st'' := S2 ds door kvs) (s_ret rfl), N_no hp]
    rfl
  | succ m ih =>
    intro n k hk s w kvs h1 h2 h3 h4 hm
    rw [show n + 3 * (m + 1) + 1 = (n + 3 * m + 3) + 1 from by omega, callN_succ (F := F_Needs_of) rfl rfl]
    show Gives _ _ _ _ _ (endF (execSs TT (callN TT (n + 3 * m + 3)) F_Needs_of_0 [some (.h 0), some (I k), some (I s), some (I w), none, none] (S2 ds door kvs)))
    unfold F_Needs_of_0 F_Needs_of_0a_0
    have hkl : k < ds.length := by omega
    have hll := le_last (ds := ds) (k := k)
    have hc : evalE TT (callN TT (n + 3 * m + 3)) (.cmp .gt (.var 1) (.att (.var 0) "last")) [some (.h 0), some (I k), some (I s), some (I w), none, none] (S2 ds door kvs) = .ok (B (decide (Nd.last ds < k))) (S2 ds door kvs) := e_cmp (ve 1 rfl) (e_att (ve 0 rfl) at_last) cmp_gt
    by_cases hp : hasP (ds.drop k) = true
    · have hlk := hll.mpr hp
      rw [decide_eq_false (by omega)] at hc
      rw [s_cons (x_if0 hc)]
      unfold F_Needs_of_1
      have hkey : ∀ kv, evalE TT (callN TT (n + 3 * m + 3)) (.tup (.cons (.var 1) (.cons (.var 2) (.cons (.var 3) .nil)))) [some (.h 0), some (I k), some (I s), some (I w), none, none] (S2 ds door kv) = .ok (.t (.tup [.int k, .int s, .int w])) (S2 ds door kv) := fun kv => e_tup (es_cons0 (ve 1 rfl) (es_cons0 (ve 2 rfl) (es_cons0 (ve 3 rfl) es_nil0))) (by simp)
      rw [s_cons (x_asg (hkey kvs) (by simp))]
      show Gives _ _ _ _ _ (endF (execSs TT (callN TT (n + 3 * m + 3)) F_Needs_of_2 [some (.h 0), some (I k), some (I s), some (I w), some (.t (.tup [.int k, .int s, .int w])), none] (S2 ds door kvs)))
      unfold F_Needs_of_2
      have hin : evalE TT (callN TT (n + 3 * m + 3)) (.cmp .notIn (.var 4) (.att (.var 0) "known")) [some (.h 0), some (I k), some (I s), some (I w), some (.t (.tup [.int k, .int s, .int w])), none] (S2 ds door kvs) = .ok (B (!(kvs.lookup [(k : Int), s, w]).isSome)) (S2 ds door kvs) := e_cmp (ve 4 rfl) (e_att (ve 0 rfl) at_known) rfl
      have hrd : ∀ kv v, List.lookup [(k : Int), s, w] kv = some (T.int v) → execSs TT (callN TT (n + 3 * m + 3)) F_Needs_of_3 [some (.h 0), some (I k), some (I s), some (I w), some (.t (.tup [.int k, .int s, .int w])), none] (S2 ds door kv) = .rt (I v) (S2 ds door kv) := by
        intro kv v hv
        unfold F_Needs_of_3
        refine s_ret (e_sub (e_att (ve 0 rfl) at_known) (ve 4 rfl) ?_)
        show (List.lookup [(k : Int), s, w] kv).map D.t = _
        rw [hv]
        rfl
      cases hlk2 : List.lookup [(k : Int), s, w] kvs with
      | some v =>
        have hv := hm.look hlk2
        subst hv
        rw [hlk2] at hin
        rw [s_cons (x_if0 hin), hrd kvs _ hlk2]
        exact ⟨kvs, rfl, Ext.refl hm⟩
      | none =>
        rw [hlk2] at hin
        have hdeg : evalI TT (callN TT (n + 3 * m + 3)) (.it (.meth (.var 0) "degrees" (.cons (.var 1) (.cons (.var 3) .nil)))) [some (.h 0), some (I k), some (I s), some (I w), some (.t (.tup [.int k, .int s, .int w])), none] (S2 ds door kvs) = .ok (.xs (((upto (min (ds[k]).g w)).map T.int).map D.t)) (S2 ds door kvs) := by
          have hgk := hg _ (List.getElem_mem hkl)
          rw [evalI, e_meth (cl := "Needs") (ve 0 rfl) rfl rfl rfl (es_cons0 (ve 1 rfl) (es_cons0 (ve 3 rfl) es_nil0))]
          rw [show n + 3 * m + 3 = (n + 3 * m + 2) + 1 from rfl]
          show R.bind (callD TT (callN TT (n + 3 * m + 2 + 1)) "Needs.degrees" _ _) _ = _
          rw [s_degrees hkl (by omega) hgk.1 hgk.2, R.bind_ok]
          rfl
        have hgk := hg _ (List.getElem_mem hkl)
        have hcm : Ok (evalL TT (callN TT (n + 3 * m + 3)) (.comp (.meth (.var 0) "least" (.cons (.var 1) (.cons (.var 2) (.cons (.var 3) (.cons (.var 5) .nil))))) (.nm 5) (.it (.meth (.var 0) "degrees" (.cons (.var 1) (.cons (.var 3) .nil)))) .non [5]) [some (.h 0), some (I k), some (I s), some (I w), some (.t (.tup [.int k, .int s, .int w])), none] (S2 ds door kvs)) fun ys st' => ys = ((upto (min (ds[k]).g w)).map fun i => T.int (lo door ds[k] (ds.drop (k + 1)) s w i)).map D.t ∧ ∃ kvs', st' = S2 ds door kvs' ∧ Ext door ds (k + 1) kvs kvs' := by
          rw [evalL, hdeg, R.bind_ok]
          refine (comp_J (fun st => ∃ kvs', st = S2 ds door kvs' ∧ Ext door ds (k + 1) kvs kvs') (upto (min (ds[k]).g w)) (fun i => I i) (fun i => I (lo door ds[k] (ds.drop (k + 1)) s w i)) (by simp) ⟨kvs, rfl, Ext.refl hm⟩ (fun i hi st => ?_) (by unfold upto; simp; omega)).mono ?_
          · rintro ⟨kv1, rfl, hE⟩
            have hi := mem_upto.mp hi
            obtain ⟨kv2, e, hE2⟩ := s_least (kvs := kv1) (n := n + 3 * m) (s := s) (w := w) (i := i) hkl hp hi.1 (by omega) (by omega) h1 h2 h4 (ih n (k + 1) (by omega)) hE.memo
            show Ok ((ofOpt (S2 ds door kv1) (some [some (.h 0), some (I k), some (I s), some (I w), some (.t (.tup [.int k, .int s, .int w])), some (I i)])).bind _) _
            rw [ofOpt_some, R.bind_ok]
            simp only [condO, R.bind_ok]
            have hev : evalE TT (callN TT (n + 3 * m + 3)) (.meth (.var 0) "least" (.cons (.var 1) (.cons (.var 2) (.cons (.var 3) (.cons (.var 5) .nil))))) [some (.h 0), some (I k), some (I s), some (I w), some (.t (.tup [.int k, .int s, .int w])), some (I i)] (S2 ds door kv1) = .ok (I (lo door ds[k] (ds.drop (k + 1)) s w i)) (S2 ds door kv2) := by
              rw [e_meth (cl := "Needs") (ve 0 rfl) rfl rfl rfl (es_cons0 (ve 1 rfl) (es_cons0 (ve 2 rfl) (es_cons0 (ve 3 rfl) (es_cons0 (ve 5 rfl) es_nil0))))]
              exact self_call (F := F_Needs_least) rfl rfl (by simp) e
            rw [hev]
            exact ⟨rfl, kv2, rfl, hE.trans hE2⟩
          · rintro ys st' ⟨rfl, h⟩
            refine ⟨?_, h⟩
            simp
        obtain ⟨ys, st', e, rfl, kv, rfl, hE⟩ := hcm.eq
        have hNv : N door (ds.drop k) s w = maxL ((upto (min (ds[k]).g w)).map fun i => lo door ds[k] (ds.drop (k + 1)) s w i) := by
          have hdr : ds.drop k = ds[k] :: ds.drop (k + 1) := List.drop_eq_getElem_cons hkl
          rw [hdr] at hp ⊢
          exact N_cons hp
        obtain ⟨hno, hE2⟩ := hE.put hlk2 (by omega) h1 h2 h3 h4
        have hmx : evalE TT (callN TT (n + 3 * m + 3)) (.bi .max (.cons (.fr (.comp (.meth (.var 0) "least" (.cons (.var 1) (.cons (.var 2) (.cons (.var 3) (.cons (.var 5) .nil))))) (.nm 5) (.it (.meth (.var 0) "degrees" (.cons (.var 1) (.cons (.var 3) .nil)))) .non [5])) .nil)) [some (.h 0), some (I k), some (I s), some (I w), some (.t (.tup [.int k, .int s, .int w])), none] (S2 ds door kvs) = .ok (I (N door (ds.drop k) s w)) (S2 ds door kv) := by
          refine e_bi (e_fr e) ?_
          have := bi_max (st := S2 ds door kv) (l := (upto (min (ds[k]).g w)).map fun i => lo door ds[k] (ds.drop (k + 1)) s w i) (map_ne (upto_ne (by omega)))
          rw [List.map_map] at this
          rw [hNv]
          exact this
        have hset : execS TT (callN TT (n + 3 * m + 3)) (.if_ (.cmp .notIn (.var 4) (.att (.var 0) "known")) F_Needs_of_2a_0 .nil) [some (.h 0), some (I k), some (I s), some (I w), some (.t (.tup [.int k, .int s, .int w])), none] (S2 ds door kvs) = .nx [some (.h 0), some (I k), some (I s), some (I w), some (.t (.tup [.int k, .int s, .int w])), none] (S2 ds door (kv ++ [([(k : Int), s, w], .int (N door (ds.drop k) s w))])) := by
          rw [x_if_t hin]
          unfold F_Needs_of_2a_0
          rw [s_cons (x_setI hmx (e_att (ve 0 rfl) at_known) (ve 4 rfl) (st4 := S2 ds door (kv ++ [([(k : Int), s, w], .int (N door (ds.drop k) s w))])) ?_)]
          · rfl
          · show (if List.lookup [(k : Int), s, w] kv = none ∧ kv.length < 1000000 then _ else none) = _
            rw [if_pos ⟨hno, hE.memo.small⟩]
            rfl
        rw [s_cons hset, hrd _ _ (lookup_app hno)]
        exact ⟨_, rfl, hE2⟩
    · refine ⟨kvs, ?_, Ext.refl hm⟩
      have hp' : hasP (ds.drop k) = false := by simpa using hp
      rw [decide_eq_true (by by_cases c : (k : Int) ≤ Nd.last ds; exact absurd (hll.mp c) hp; omega)] at hc
      rw [s_if_rt hc (x := I 0) (st'' := S2 ds door kvs) (s_ret rfl), N_no hp']
      rfl
end
end K12
end

section
set_option Elab.async false
set_option linter.all false
set_option maxRecDepth 100000
set_option maxHeartbeats 4000000
namespace K12
open PySem Ice Pl Nd
section
variable {ds : List Day} {door w s : Int} {st : Store}
theorem of_top {n : Nat} (hg : GOk ds) (hl : ds.length ≤ 12) : OfOk ds door (n + 37) 0 := by
  have := needs_of (door := door) hg hl ds.length (n + 36 - 3 * ds.length) 0 (by omega)
  rw [show n + 36 - 3 * ds.length + 3 * ds.length + 1 = n + 37 from by omega] at this
  exact this
/-- Needs(..).of(0, ..), where the handle of the new one is the only object -/
theorem of_new {n : Nat} {ρ : Ice.Env} {a : Ex} {es : Exs} (hg : GOk ds) (hl : ds.length ≤ 12) (hs : 0 ≤ s) (hs8 : s ≤ 8) (hw : 0 ≤ w) (hw12 : w ≤ 12) (ha : evalE TT (callN TT (n + 37)) a ρ [] = .ok (.h 0) (S2 ds door [])) (he : evalEs TT (callN TT (n + 37)) es ρ (S2 ds door []) = .ok [I 0, I s, I w] (S2 ds door [])) : ∃ st', evalE TT (callN TT (n + 37)) (.meth a "of" es) ρ [] = .ok (I (N door ds s w)) st' := by
  obtain ⟨kvs', e, _⟩ := of_top (n := n) (door := door) hg hl s w [] hs hs8 hw hw12 Memo.nil
  refine ⟨S2 ds door kvs', ?_⟩
  rw [e_meth (cl := "Needs") ha rfl rfl rfl he]
  exact self_call (F := F_Needs_of) rfl rfl (by simp) e
theorem at_h (f : String) (v : T) (h : [("days", dsT ds), ("warmth", T.int w), ("door", T.int door), ("straw", T.int s)].lookup f = some v) (hf : fldOk TT "House" f = true) : attF TT st (.t (houseT ds w door s)) f = some (.t v) := by
  show (if fldOk TT "House" f = true then _ else none) = _
  rw [if_pos hf]
  show (List.lookup f [("days", dsT ds), ("warmth", T.int w), ("door", T.int door), ("straw", T.int s)]).map D.t = _
  rw [h]
  rfl
theorem h_days : attF TT st (.t (houseT ds w door s)) "days" = some (.t (dsT ds)) := at_h _ _ rfl rfl
theorem h_warmth : attF TT st (.t (houseT ds w door s)) "warmth" = some (I w) := at_h _ _ rfl rfl
theorem h_door : attF TT st (.t (houseT ds w door s)) "door" = some (I door) := at_h _ _ rfl rfl
theorem h_straw : attF TT st (.t (houseT ds w door s)) "straw" = some (I s) := at_h _ _ rfl rfl
theorem s_needs_of {n : Nat} (hl : ds.length ≤ 12) : callD TT (callN TT (n + 2)) "needs_of" [.t (houseT ds w door s)] [] = .ok (.h 0) (S2 ds door []) := by
  have key : callN TT (n + 2) "needs_of" [.t (houseT ds w door s)] [] = .ok (.h 0) (S2 ds door []) := by
    rw [callN_succ (F := F_needs_of) rfl rfl]
    show endF (execSs TT (callN TT (n + 1)) F_needs_of_0 [some (.t (houseT ds w door s))] []) = _
    unfold F_needs_of_0
    rw [s_ret (by rw [e_new (es_cons0 (e_att (ve 0 rfl) h_days) (es_cons0 (e_att (ve 0 rfl) h_door) es_nil0))]; exact s_needs (by omega))]
    rfl
  rw [call_fill (F := F_needs_of) rfl rfl, call0_trees (by simp), key]
  rfl
structure HOk (ds : List Day) (w door s : Int) : Prop where
  g : GOk ds
  l : ds.length ≤ 12
  w0 : 0 ≤ w
  w12 : w ≤ 12
  s0 : 0 ≤ s
  s8 : s ≤ 8
theorem s_told_need {n : Nat} (h : HOk ds w door s) : callD TT (callN TT (n + 38)) "told_need" [.t (houseT ds w door s)] st = .ok (I (N door ds s w)) st := by
  obtain ⟨st', e⟩ := of_new (n := n) (ρ := [some (.t (houseT ds w door s))]) (a := .call "needs_of" (.cons (.var 0) .nil)) (es := .cons (.lit (.int 0)) (.cons (.att (.var 0) "straw") (.cons (.att (.var 0) "warmth") .nil))) h.g h.l h.s0 h.s8 h.w0 h.w12 (by rw [e_call1 (ve 0 rfl)]; exact s_needs_of h.l) (es_cons0 (x := I 0) (st' := S2 ds door []) rfl (es_cons0 (e_att (ve 0 rfl) h_straw) (es_cons0 (e_att (ve 0 rfl) h_warmth) es_nil0)))
  refine call_tree (F := F_told_need) (st' := st') rfl rfl (by simp) ?_
  rw [callN_succ (F := F_told_need) rfl rfl]
  show endF (execSs TT (callN TT (n + 37)) F_told_need_0 [some (.t (houseT ds w door s))] []) = _
  unfold F_told_need_0
  rw [s_ret e]
  rfl
theorem s_whole_need {n : Nat} (h : HOk ds w door s) : callD TT (callN TT (n + 39)) "whole_need" [.t (houseT ds w door s)] st = .ok (I (N door ds s w)) st := by
  refine call_tree (F := F_whole_need) (st' := []) rfl rfl (by simp) ?_
  rw [callN_succ (F := F_whole_need) rfl rfl]
  show endF (execSs TT (callN TT (n + 38)) F_whole_need_0 [some (.t (houseT ds w door s))] []) = _
  unfold F_whole_need_0
  rw [s_ret (by rw [e_call1 (ve 0 rfl)]; exact s_told_need h)]
  rfl
theorem s_is_sure {n : Nat} {ice : Int} (h : HOk ds w door s) : callD TT (callN TT (n + 39)) "is_sure" [.t (houseT ds w door s), I ice] st = .ok (B (decide (N door ds s w ≤ ice))) st := by
  refine call_tree (F := F_is_sure) (st' := []) rfl rfl (by simp) ?_
  rw [callN_succ (F := F_is_sure) rfl rfl]
  show endF (execSs TT (callN TT (n + 38)) F_is_sure_0 [some (.t (houseT ds w door s)), some (I ice)] []) = _
  unfold F_is_sure_0
  rw [s_ret (e_cmp (by rw [e_call1 (ve 0 rfl)]; exact s_told_need h) (ve 1 rfl) cmp_le)]
  rfl
theorem s_need_of_days {n : Nat} {es : List Day} (h : HOk es w door s) : callD TT (callN TT (n + 38)) "need_of_days" [.t (houseT ds w door s), .t (dsT es)] st = .ok (I (N door es s w)) st := by
  obtain ⟨st', e⟩ := of_new (n := n) (ds := es) (door := door) (ρ := [some (.t (houseT ds w door s)), some (.t (dsT es))]) (a := .new "Needs" (.cons (.var 1) (.cons (.att (.var 0) "door") .nil))) (es := .cons (.lit (.int 0)) (.cons (.att (.var 0) "straw") (.cons (.att (.var 0) "warmth") .nil))) h.g h.l h.s0 h.s8 h.w0 h.w12 (by rw [e_new (es_cons0 (ve 1 rfl) (es_cons0 (e_att (ve 0 rfl) h_door) es_nil0))]; exact s_needs (by have := h.l; omega)) (es_cons0 (x := I 0) (st' := S2 es door []) rfl (es_cons0 (e_att (ve 0 rfl) h_straw) (es_cons0 (e_att (ve 0 rfl) h_warmth) es_nil0)))
  refine call_tree (F := F_need_of_days) (st' := st') rfl rfl (by simp) ?_
  rw [callN_succ (F := F_need_of_days) rfl rfl]
  show endF (execSs TT (callN TT (n + 37)) F_need_of_days_0 [some (.t (houseT ds w door s)), some (.t (dsT es))] []) = _
  unfold F_need_of_days_0
  rw [s_ret e]
  rfl
end
end K12
end

section
set_option Elab.async false
set_option linter.all false
set_option maxRecDepth 100000
set_option maxHeartbeats 4000000
namespace K12
open PySem Ice Pl Nd
def toldT (ds : List Day) (w door s : Int) : T := .tup [dsT ds, .int w, .int door, .int s]
def K1 (kvs : List (List Int × T)) : Store := [.dT kvs]
theorem law_call {n : Nat} {f : String} {F : Fn} {args : List D} {kvs kvs' : List (List Int × T)} {x : T} (hF : TT.fn f = some F) (hn : args.length + 1 = F.np) (ht : ∀ d ∈ args, ∃ x, d = D.t x)
    (h : callN TT n f (args ++ [.h 0]) (K1 kvs) = .ok (.t x) (K1 kvs')) : callD TT (callN TT n) f (args ++ [.h 0]) (K1 kvs) = .ok (.t x) (K1 kvs') := by
  rw [call_fill hF (by simpa using hn)]
  unfold callD0
  have hr : reach (K1 kvs) (args ++ [.h 0]) = [0] := by
    unfold reach
    rw [List.foldl_append, reach_trees ht]
    rfl
  rw [hr]
  have hk : okKs [0] (K1 kvs) (args ++ [.h 0]) = true := by
    unfold okKs
    have : (args ++ [D.h 0]).all (inKs [0]) = true := List.all_eq_true.mpr fun d hd => by
      rcases List.mem_append.mp hd with hd | hd
      · obtain ⟨x, rfl⟩ := ht d hd
        rfl
      · rw [List.mem_singleton.mp hd]
        rfl
    rw [this]
    rfl
  have ha : (args ++ [D.h 0]).map (renD [0]) = args ++ [.h 0] := by
    rw [List.map_append, ren_trees ht]
    rfl
  have hs : subS [0] (K1 kvs) = K1 kvs := rfl
  simp only [hk, ha, hs, h]
  rw [if_neg (by decide)]
  rfl
section
variable {ds : List Day} {door w s : Int} {kvs : List (List Int × T)} {st : Store}
theorem to_0 : subD st (.t (toldT ds w door s)) (I 0) = some (.t (dsT ds)) := rfl
theorem to_1 : subD st (.t (toldT ds w door s)) (I 1) = some (I w) := rfl
theorem to_2 : subD st (.t (toldT ds w door s)) (I 2) = some (I door) := rfl
theorem to_3 : subD st (.t (toldT ds w door s)) (I 3) = some (I s) := rfl
section
variable {cf : CallF} {ρ : Ice.Env}
theorem ev_ds {i : Nat} (h : ρ[i]? = some (some (.t (toldT ds w door s)))) : evalE TT cf (.sub (.var i) (.lit (.int 0))) ρ st = .ok (.t (dsT ds)) st := e_sub (ve i h) (st'' := st) (y := I 0) rfl to_0
theorem ev_day {i j k : Nat} (h : ρ[i]? = some (some (.t (toldT ds w door s)))) (hj : ρ[j]? = some (some (I (k : Int)))) (hk : k < ds.length) : evalE TT cf (.sub (.sub (.var i) (.lit (.int 0))) (.var j)) ρ st = .ok (.t (ds[k]).t) st := e_sub (ev_ds h) (ve j hj) (ds_at hk)
end
theorem l_taken_on {n k : Nat} (hk : k < ds.length) : callD TT (callN TT (n + 1)) "_law_taken_on" [.t (toldT ds w door s), I (k : Int)] st = .ok (I (own door ds[k])) st := by
  refine call_tree (F := F__law_taken_on) (st' := []) rfl rfl (by simp) ?_
  rw [callN_succ (F := F__law_taken_on) rfl rfl]
  show endF (execSs TT (callN TT n) F__law_taken_on_0 [some (.t (toldT ds w door s)), some (I k)] []) = _
  unfold F__law_taken_on_0
  have hp : evalE TT (callN TT n) (.sub (.sub (.sub (.var 0) (.lit (.int 0))) (.var 1)) (.lit (.int 0))) [some (.t (toldT ds w door s)), some (I k)] [] = .ok (I (ds[k]).p) [] := e_sub (ev_day rfl rfl hk) (st'' := []) (y := I 0) rfl day_p
  have hc := e_cmp (o := .gt) hp (b := .lit (.int 0)) (st'' := []) (y := I 0) rfl cmp_gt
  by_cases h : 0 < (ds[k]).p
  · rw [decide_eq_true h] at hc
    rw [s_ret ((e_ite_t hc).trans (e_bin hp (e_sub (ve 0 rfl) (st'' := []) (y := I 2) rfl to_2) bin_add))]
    unfold own
    rw [if_pos h]
    rfl
  · rw [decide_eq_false h] at hc
    rw [s_ret (x := I 0) (st' := []) ((e_ite_f hc).trans rfl)]
    unfold own
    rw [if_neg h]
    rfl
theorem l_melt {n k : Nat} {i j : Int} (hk : k < ds.length) (h : i.natAbs < 18446744073709551616) : callD TT (callN TT (n + 1)) "_law_melt" [.t (toldT ds w door s), I (k : Int), I i, I j] st = .ok (I (melt ds[k] i j)) st := by
  refine call_tree (F := F__law_melt) (st' := []) rfl rfl (by simp) ?_
  rw [callN_succ (F := F__law_melt) rfl rfl]
  show endF (execSs TT (callN TT n) F__law_melt_0 [some (.t (toldT ds w door s)), some (I k), some (I i), some (I j)] []) = _
  unfold F__law_melt_0
  have hm : evalE TT (callN TT n) (.bi .max (.cons (.lit (.int 0)) (.cons (.bin .sub (.sub (.sub (.sub (.var 0) (.lit (.int 0))) (.var 1)) (.lit (.int 2))) (.var 3)) .nil))) [some (.t (toldT ds w door s)), some (I k), some (I i), some (I j)] [] = .ok (I (max 0 ((ds[k]).r - j))) [] :=
    e_bi2 (x := I 0) (st' := []) rfl (e_bin (e_sub (ev_day rfl rfl hk) (st'' := []) (y := I 2) rfl day_r) (ve 3 rfl) bin_sub) max2_int
  rw [s_ret (e_bin (e_sub (ev_day rfl rfl hk) (st'' := []) (y := I 1) rfl day_m) (e_bin (ve 2 rfl) hm (by rw [bin_mul, if_pos (.inl h)])) bin_add)]
  rfl
theorem prom_rng (x : Int) : x ∈ (((List.range ds.length).filter fun i => decide (0 < (ds.getD i ⟨0, 0, 0, 0⟩).p)).map fun i => ((i : Nat) : Int)) ↔ x ∈ prom ds := Iff.rfl
theorem l_last {n : Nat} (hl : ds.length ≤ 12) : callD TT (callN TT (n + 1)) "_law_last" [.t (toldT ds w door s)] st = .ok (I (Nd.last ds)) st := by
  refine call_tree (F := F__law_last) (st' := []) rfl rfl (by simp) ?_
  rw [callN_succ (F := F__law_last) rfl rfl]
  show endF (execSs TT (callN TT n) F__law_last_0 [some (.t (toldT ds w door s)), none] []) = _
  unfold F__law_last_0
  have hlen : evalE TT (callN TT n) (.bi .len (.cons (.sub (.var 0) (.lit (.int 0))) .nil)) [some (.t (toldT ds w door s)), none] [] = .ok (I ds.length) [] := by
    refine e_bi (ev_ds rfl) ?_
    show (lenD [] (.t (dsT ds))) = _
    rw [len_sq sq_ds]
    simp
  have hcm : evalE TT (callN TT n) (.fr (.comp (.var 1) (.nm 1) (.range (.cons (.bi .len (.cons (.sub (.var 0) (.lit (.int 0))) .nil)) .nil)) (.som (.cmp .gt (.sub (.sub (.sub (.var 0) (.lit (.int 0))) (.var 1)) (.lit (.int 0))) (.lit (.int 0)))) [1])) [some (.t (toldT ds w door s)), none] [] = .ok (.t (.lst ((prom ds).map T.int))) [] := by
    refine e_fr ?_
    rw [evalL, evI_range1 hlen (by omega), R.bind_ok, show ((ds.length : Nat) : Int).toNat = ds.length from by omega]
    rw [comp_r (fun i => I (i : Int)) (fun i => decide (0 < (ds.getD i ⟨0, 0, 0, 0⟩).p))]
    · unfold prom
      simp
    · intro i hi
      show (ofOpt [] (some [some (.t (toldT ds w door s)), some (I (i : Int))])).bind _ = _
      rw [ofOpt_some, R.bind_ok]
      have hcd : condO TT (callN TT n) (.som (.cmp .gt (.sub (.sub (.sub (.var 0) (.lit (.int 0))) (.var 1)) (.lit (.int 0))) (.lit (.int 0)))) [some (.t (toldT ds w door s)), some (I (i : Int))] [] = .ok (decide (0 < (ds[i]).p)) [] := by
        rw [condO, e_cmp (e_sub (ev_day rfl rfl hi) (st'' := []) (y := I 0) rfl day_p) (st'' := []) (y := I 0) rfl cmp_gt]
        rfl
      have hgd : ds.getD i ⟨0, 0, 0, 0⟩ = ds[i] := by simp [hi]
      rw [hcd, R.bind_ok, hgd]
      by_cases hp : 0 < (ds[i]).p
      · rw [if_pos (decide_eq_true hp), decide_eq_true hp]
        simp only
        rw [ve 1 rfl]
        rfl
      · rw [if_neg (by simpa using hp), decide_eq_false hp]
    · omega
  have hcat : evalE TT (callN TT n) (.bin .add (.fr (.disp (.cons (.neg (.lit (.int 1))) .nil))) (.fr (.comp (.var 1) (.nm 1) (.range (.cons (.bi .len (.cons (.sub (.var 0) (.lit (.int 0))) .nil)) .nil)) (.som (.cmp .gt (.sub (.sub (.sub (.var 0) (.lit (.int 0))) (.var 1)) (.lit (.int 0))) (.lit (.int 0)))) [1]))) [some (.t (toldT ds w door s)), none] [] = .ok (.t (.lst ((-1 :: prom ds).map T.int))) [] := by
    refine e_bin (x := .t (.lst [.int (-1)])) (st' := []) rfl hcm ?_
    have hp : (prom ds).length ≤ 12 := by
      unfold prom
      rw [List.length_map]
      have := List.length_filter_le (fun i => decide (0 < (ds.getD i ⟨0, 0, 0, 0⟩).p)) (List.range ds.length)
      simp only [List.length_range] at this
      omega
    show binT .add (.lst [.int (-1)]) (.lst ((prom ds).map T.int)) = _
    unfold binT
    have hf : fits ([T.int (-1)].length + ((prom ds).map T.int).length) = true := decide_eq_true (by simp; omega)
    first
      | (rw [if_pos (by simp; omega)]; rfl)
      | (simp only [hf, if_true]; rfl)
      | (simp [hf]; done)
  rw [s_ret (e_bi hcat (z := I (Nd.last ds)) ?_)]
  · rfl
  · rw [bi_max (l := -1 :: prom ds) (by simp)]
    rfl
theorem l_degrees {n k : Nat} {v : Int} (hk : k < ds.length) (hw : -1 ≤ v) (hg : 0 ≤ (ds[k]).g) (hg5 : (ds[k]).g ≤ 5) : callD TT (callN TT (n + 1)) "_law_degrees" [.t (toldT ds w door s), I (k : Int), I v] st = .ok (.t (.lst ((upto (min (ds[k]).g v)).map T.int))) st := by
  refine call_tree (F := F__law_degrees) (st' := []) rfl rfl (by simp) ?_
  rw [callN_succ (F := F__law_degrees) rfl rfl]
  show endF (execSs TT (callN TT n) F__law_degrees_0 [some (.t (toldT ds w door s)), some (I k), some (I v)] []) = _
  unfold F__law_degrees_0
  have ha : evalE TT (callN TT n) (.bin .add (.bi .min (.cons (.sub (.sub (.sub (.var 0) (.lit (.int 0))) (.var 1)) (.lit (.int 3))) (.cons (.var 2) .nil))) (.lit (.int 1))) [some (.t (toldT ds w door s)), some (I k), some (I v)] [] = .ok (I (min (ds[k]).g v + 1)) [] :=
    e_bin (e_bi2 (e_sub (ev_day rfl rfl hk) (st'' := []) (y := I 3) rfl day_g) (ve 2 rfl) min2_int) (st'' := []) (y := I 1) rfl bin_add
  rw [s_ret (e_fr (xs := (upto (min (ds[k]).g v)).map T.int) ?_)]
  · rfl
  · rw [evalL, evI_range1 ha (by omega), R.bind_ok]
    have hf : fits (min (ds[k]).g v + 1).toNat = true := decide_eq_true (by omega)
    simp only [allI, hf, if_true, ofOpt_some]
    unfold upto
    simp
end
end K12
end

section
set_option Elab.async false
set_option linter.all false
set_option maxRecDepth 100000
set_option maxHeartbeats 4000000
namespace K12
open PySem Ice Pl Nd
def GivesL (ds : List Day) (door : Int) (k : Nat) (kvs : List (List Int × T)) (v : Int) (r : R D) : Prop := ∃ kvs', r = .ok (I v) (K1 kvs') ∧ Ext door ds k kvs kvs'
section
variable {ds : List Day} {door w0 s0 : Int} {kvs : List (List Int × T)}
def NeedOk (ds : List Day) (door w0 s0 : Int) (n k : Nat) : Prop := ∀ (s w : Int) (kvs : List (List Int × T)), 0 ≤ s → s ≤ 8 → 0 ≤ w → w ≤ 12 → Memo door ds kvs →
  GivesL ds door k kvs (N door (ds.drop k) s w) (callN TT n "_law_need" [.t (toldT ds w0 door s0), I (k : Int), I s, I w, .h 0] (K1 kvs))
theorem l_with {n k : Nat} {s w i j : Int} (hl : ds.length ≤ 12) (hk : k < ds.length) (hp : hasP (ds.drop k) = true) (hi : 0 ≤ i) (hi5 : i ≤ 5)
    (IH : GivesL ds door (k + 1) kvs (N door (ds.drop (k + 1)) (s - j) (w - i)) (callN TT (n + 1) "_law_need" [.t (toldT ds w0 door s0), I ((k + 1 : Nat) : Int), I (s - j), I (w - i), .h 0] (K1 kvs))) (hm : Memo door ds kvs) :
    GivesL ds door (k + 1) kvs (wi door ds[k] (hasP (ds.drop (k + 1))) (N door (ds.drop (k + 1))) s w i j) (callN TT (n + 2) "_law_with" [.t (toldT ds w0 door s0), I (k : Int), I s, I w, I i, I j, .h 0] (K1 kvs)) := by
  rw [callN_succ (F := F__law_with) rfl rfl]
  show GivesL _ _ _ _ _ (endF (execSs TT (callN TT (n + 1)) F__law_with_0 [some (.t (toldT ds w0 door s0)), some (I k), some (I s), some (I w), some (I i), some (I j), some (.h 0), none] (K1 kvs)))
  unfold F__law_with_0
  rw [s_cons (x_asg (x := I (own door ds[k])) (st' := K1 kvs) (by rw [e_call2 (ve 0 rfl) (ve 1 rfl)]; exact l_taken_on hk) (by simp))]
  show GivesL _ _ _ _ _ (endF (execSs TT (callN TT (n + 1)) F__law_with_1 [some (.t (toldT ds w0 door s0)), some (I k), some (I s), some (I w), some (I i), some (I j), some (.h 0), some (I (own door ds[k]))] (K1 kvs)))
  have hc : evalE TT (callN TT (n + 1)) (.cmp .eq (.var 1) (.call "_law_last" (.cons (.var 0) .nil))) [some (.t (toldT ds w0 door s0)), some (I k), some (I s), some (I w), some (I i), some (I j), some (.h 0), some (I (own door ds[k]))] (K1 kvs) = .ok (B (decide ((k : Int) = Nd.last ds))) (K1 kvs) := e_cmp (ve 1 rfl) (by rw [e_call1 (ve 0 rfl)]; exact l_last hl) cmp_eqi
  have h1 := (le_last (k := k)).mpr hp
  have h2 := le_last (ds := ds) (k := k + 1)
  unfold F__law_with_1 F__law_with_1a_0 wi
  by_cases c : hasP (ds.drop (k + 1)) = true
  · have h3 := h2.mpr c
    rw [decide_eq_false (by omega)] at hc
    rw [if_pos c, s_cons (x_if0 hc)]
    unfold F__law_with_2
    obtain ⟨kvs', e, hE⟩ := IH
    refine ⟨kvs', ?_, hE⟩
    have hof : evalE TT (callN TT (n + 1)) (.call "_law_need" (.cons (.var 0) (.cons (.bin .add (.var 1) (.lit (.int 1))) (.cons (.bin .sub (.var 2) (.var 5)) (.cons (.bin .sub (.var 3) (.var 4)) (.cons (.var 6) .nil)))))) [some (.t (toldT ds w0 door s0)), some (I k), some (I s), some (I w), some (I i), some (I j), some (.h 0), some (I (own door ds[k]))] (K1 kvs) = .ok (I (N door (ds.drop (k + 1)) (s - j) (w - i))) (K1 kvs') := by
      rw [e_call (es_cons0 (ve 0 rfl) (es_cons0 (e_bin (ve 1 rfl) (y := I 1) (st'' := K1 kvs) rfl bin_add) (es_cons0 (e_bin (ve 2 rfl) (ve 5 rfl) bin_sub) (es_cons0 (e_bin (ve 3 rfl) (ve 4 rfl) bin_sub) (es_cons0 (ve 6 rfl) es_nil0)))))]
      exact law_call (F := F__law_need) (args := [.t (toldT ds w0 door s0), I ((k + 1 : Nat) : Int), I (s - j), I (w - i)]) rfl rfl (by simp) e
    rw [s_ret (e_bin (e_bin (ve 7 rfl) (by rw [e_call4 (ve 0 rfl) (ve 1 rfl) (ve 4 rfl) (ve 5 rfl)]; exact l_melt hk (by omega)) bin_add) hof bin_add)]
    rfl
  · have h3 : ¬ ((k + 1 : Nat) : Int) ≤ Nd.last ds := fun h => c (h2.mp h)
    rw [decide_eq_true (by omega)] at hc
    rw [if_neg c]
    refine ⟨kvs, ?_, Ext.refl hm⟩
    rw [s_if_rt hc (x := I (own door ds[k])) (st'' := K1 kvs) (s_ret (ve 7 rfl))]
    rfl
theorem l_least {n k : Nat} {s w i : Int} (hl : ds.length ≤ 12) (hk : k < ds.length) (hp : hasP (ds.drop k) = true) (hi : 0 ≤ i) (hi5 : i ≤ 5) (hiw : i ≤ w) (hs : 0 ≤ s) (hs8 : s ≤ 8) (hw12 : w ≤ 12) (IH : NeedOk ds door w0 s0 (n + 1) (k + 1)) (hm : Memo door ds kvs) :
    GivesL ds door (k + 1) kvs (lo door ds[k] (ds.drop (k + 1)) s w i) (callN TT (n + 3) "_law_least" [.t (toldT ds w0 door s0), I (k : Int), I s, I w, I i, .h 0] (K1 kvs)) := by
  rw [callN_succ (F := F__law_least) rfl rfl]
  show GivesL _ _ _ _ _ (endF (execSs TT (callN TT (n + 2)) F__law_least_0 [some (.t (toldT ds w0 door s0)), some (I k), some (I s), some (I w), some (I i), some (.h 0), none] (K1 kvs)))
  unfold F__law_least_0
  have hr : evalI TT (callN TT (n + 2)) (.range (.cons (.bin .add (.var 2) (.lit (.int 1))) .nil)) [some (.t (toldT ds w0 door s0)), some (I k), some (I s), some (I w), some (I i), some (.h 0), none] (K1 kvs) = .ok (.rng 0 1 (s + 1).toNat) (K1 kvs) := evI_range1 (e_bin (ve 2 rfl) (y := I 1) (st'' := K1 kvs) rfl bin_add) (by omega)
  have hc : Ok (evalL TT (callN TT (n + 2)) (.comp (.call "_law_with" (.cons (.var 0) (.cons (.var 1) (.cons (.var 2) (.cons (.var 3) (.cons (.var 4) (.cons (.var 6) (.cons (.var 5) .nil)))))))) (.nm 6) (.range (.cons (.bin .add (.var 2) (.lit (.int 1))) .nil)) .non [6]) [some (.t (toldT ds w0 door s0)), some (I k), some (I s), some (I w), some (I i), some (.h 0), none] (K1 kvs)) fun ys st' => ys = ((upto s).map fun j => T.int (wi door ds[k] (hasP (ds.drop (k + 1))) (N door (ds.drop (k + 1))) s w i j)).map D.t ∧ ∃ kvs', st' = K1 kvs' ∧ Ext door ds (k + 1) kvs kvs' := by
    rw [evalL, hr, R.bind_ok]
    refine (comp_Jr (fun st => ∃ kvs', st = K1 kvs' ∧ Ext door ds (k + 1) kvs kvs') (fun j => I (wi door ds[k] (hasP (ds.drop (k + 1))) (N door (ds.drop (k + 1))) s w i j)) ⟨kvs, rfl, Ext.refl hm⟩ (fun j hj hjs st => ?_) (by omega)).mono ?_
    · rintro ⟨kv1, rfl, hE⟩
      have hj2 : j ≤ s := by omega
      obtain ⟨kv2, e, hE2⟩ := l_with (kvs := kv1) (w0 := w0) (s0 := s0) (n := n) (s := s) (w := w) (j := j) hl hk hp hi hi5 (IH (s - j) (w - i) kv1 (by omega) (by omega) (by omega) (by omega) hE.memo) hE.memo
      show Ok ((ofOpt (K1 kv1) (some [some (.t (toldT ds w0 door s0)), some (I k), some (I s), some (I w), some (I i), some (.h 0), some (I j)])).bind _) _
      rw [ofOpt_some, R.bind_ok]
      simp only [condO, R.bind_ok]
      have hev : evalE TT (callN TT (n + 2)) (.call "_law_with" (.cons (.var 0) (.cons (.var 1) (.cons (.var 2) (.cons (.var 3) (.cons (.var 4) (.cons (.var 6) (.cons (.var 5) .nil)))))))) [some (.t (toldT ds w0 door s0)), some (I k), some (I s), some (I w), some (I i), some (.h 0), some (I j)] (K1 kv1) = .ok (I (wi door ds[k] (hasP (ds.drop (k + 1))) (N door (ds.drop (k + 1))) s w i j)) (K1 kv2) := by
        rw [e_call (es_cons0 (ve 0 rfl) (es_cons0 (ve 1 rfl) (es_cons0 (ve 2 rfl) (es_cons0 (ve 3 rfl) (es_cons0 (ve 4 rfl) (es_cons0 (ve 6 rfl) (es_cons0 (ve 5 rfl) es_nil0)))))))]
        exact law_call (F := F__law_with) (args := [.t (toldT ds w0 door s0), I (k : Int), I s, I w, I i, I j]) rfl rfl (by simp) e
      rw [hev]
      exact ⟨rfl, kv2, rfl, hE.trans hE2⟩
    · rintro ys st' ⟨rfl, h⟩
      refine ⟨?_, h⟩
      unfold upto
      simp
  obtain ⟨ys, st', e, rfl, kv, rfl, hE⟩ := hc.eq
  refine ⟨kv, ?_, hE⟩
  rw [s_ret (e_bi (e_fr e) (z := I (lo door ds[k] (ds.drop (k + 1)) s w i)) ?_)]
  · rfl
  · have := bi_min (st := K1 kv) (l := (upto s).map fun j => wi door ds[k] (hasP (ds.drop (k + 1))) (N door (ds.drop (k + 1))) s w i j) (map_ne (upto_ne hs))
    rw [List.map_map] at this
    exact this
theorem law_need (hg : GOk ds) (hl : ds.length ≤ 12) : ∀ (m n k : Nat), k + m = ds.length → NeedOk ds door w0 s0 (n + 3 * m + 2) k := by
  intro m
  induction m with
  | zero =>
    intro n k hk s w kvs h1 h2 h3 h4 hm
    refine ⟨kvs, ?_, Ext.refl hm⟩
    rw [callN_succ (F := F__law_need) rfl rfl]
    show endF (execSs TT (callN TT (n + 3 * 0 + 1)) F__law_need_0 [some (.t (toldT ds w0 door s0)), some (I k), some (I s), some (I w), some (.h 0), none, none] (K1 kvs)) = _
    unfold F__law_need_0 F__law_need_0a_0
    have hp : hasP (ds.drop k) = false := by rw [List.drop_eq_nil_of_le (by omega)]; rfl
    have hc : evalE TT (callN TT (n + 3 * 0 + 1)) (.cmp .gt (.var 1) (.call "_law_last" (.cons (.var 0) .nil))) [some (.t (toldT ds w0 door s0)), some (I k), some (I s), some (I w), some (.h 0), none, none] (K1 kvs) = .ok (B true) (K1 kvs) := e_cmp (ve 1 rfl) (by rw [e_call1 (ve 0 rfl)]; exact l_last hl) (by
      have := le_last (ds := ds) (k := k)
      rw [hp] at this
      rw [cmp_gt, decide_eq_true (by by_cases c : (k : Int) ≤ Nd.last ds; exact absurd (this.mp c) (by decide); omega)])
    rw [s_if_rt hc (x := I 0) (st'' := K1 kvs) (s_ret rfl), N_no hp]
    rfl
  | succ m ih =>
    intro n k hk s w kvs h1 h2 h3 h4 hm
    rw [show n + 3 * (m + 1) + 2 = (n + 1 + 3 * m + 3) + 1 from by omega, callN_succ (F := F__law_need) rfl rfl]
    show GivesL _ _ _ _ _ (endF (execSs TT (callN TT (n + 1 + 3 * m + 3)) F__law_need_0 [some (.t (toldT ds w0 door s0)), some (I k), some (I s), some (I w), some (.h 0), none, none] (K1 kvs)))
    unfold F__law_need_0 F__law_need_0a_0
    have hkl : k < ds.length := by omega
    have hll := le_last (ds := ds) (k := k)
    have hc : evalE TT (callN TT (n + 1 + 3 * m + 3)) (.cmp .gt (.var 1) (.call "_law_last" (.cons (.var 0) .nil))) [some (.t (toldT ds w0 door s0)), some (I k), some (I s), some (I w), some (.h 0), none, none] (K1 kvs) = .ok (B (decide (Nd.last ds < k))) (K1 kvs) := e_cmp (ve 1 rfl) (by rw [e_call1 (ve 0 rfl)]; exact l_last hl) cmp_gt
    by_cases hp : hasP (ds.drop k) = true
    · have hlk := hll.mpr hp
      rw [decide_eq_false (by omega)] at hc
      rw [s_cons (x_if0 hc)]
      unfold F__law_need_1
      have hkey : ∀ kv, evalE TT (callN TT (n + 1 + 3 * m + 3)) (.tup (.cons (.var 1) (.cons (.var 2) (.cons (.var 3) .nil)))) [some (.t (toldT ds w0 door s0)), some (I k), some (I s), some (I w), some (.h 0), none, none] (K1 kv) = .ok (.t (.tup [.int k, .int s, .int w])) (K1 kv) := fun kv => e_tup (es_cons0 (ve 1 rfl) (es_cons0 (ve 2 rfl) (es_cons0 (ve 3 rfl) es_nil0))) (by simp)
      rw [s_cons (x_asg (hkey kvs) (by simp))]
      show GivesL _ _ _ _ _ (endF (execSs TT (callN TT (n + 1 + 3 * m + 3)) F__law_need_2 [some (.t (toldT ds w0 door s0)), some (I k), some (I s), some (I w), some (.h 0), some (.t (.tup [.int k, .int s, .int w])), none] (K1 kvs)))
      unfold F__law_need_2
      have hin : evalE TT (callN TT (n + 1 + 3 * m + 3)) (.cmp .notIn (.var 5) (.var 4)) [some (.t (toldT ds w0 door s0)), some (I k), some (I s), some (I w), some (.h 0), some (.t (.tup [.int k, .int s, .int w])), none] (K1 kvs) = .ok (B (!(kvs.lookup [(k : Int), s, w]).isSome)) (K1 kvs) := e_cmp (ve 5 rfl) (ve 4 rfl) rfl
      have hrd : ∀ kv v, List.lookup [(k : Int), s, w] kv = some (T.int v) → execSs TT (callN TT (n + 1 + 3 * m + 3)) F__law_need_3 [some (.t (toldT ds w0 door s0)), some (I k), some (I s), some (I w), some (.h 0), some (.t (.tup [.int k, .int s, .int w])), none] (K1 kv) = .rt (I v) (K1 kv) := by
        intro kv v hv
        unfold F__law_need_3
        refine s_ret (e_sub (ve 4 rfl) (ve 5 rfl) ?_)
        show (List.lookup [(k : Int), s, w] kv).map D.t = _
        rw [hv]
        rfl
      cases hlk2 : List.lookup [(k : Int), s, w] kvs with
      | some v =>
        have hv := hm.look hlk2
        subst hv
        rw [hlk2] at hin
        rw [s_cons (x_if0 hin), hrd kvs _ hlk2]
        exact ⟨kvs, rfl, Ext.refl hm⟩
      | none =>
        rw [hlk2] at hin
        have hgk := hg _ (List.getElem_mem hkl)
        have hdeg : evalI TT (callN TT (n + 1 + 3 * m + 3)) (.it (.call "_law_degrees" (.cons (.var 0) (.cons (.var 1) (.cons (.var 3) .nil))))) [some (.t (toldT ds w0 door s0)), some (I k), some (I s), some (I w), some (.h 0), some (.t (.tup [.int k, .int s, .int w])), none] (K1 kvs) = .ok (.xs (((upto (min (ds[k]).g w)).map T.int).map D.t)) (K1 kvs) := by
          rw [evalI, e_call3 (ve 0 rfl) (ve 1 rfl) (ve 3 rfl), l_degrees hkl (by omega) hgk.1 hgk.2, R.bind_ok]
          rfl
        have hcm : Ok (evalL TT (callN TT (n + 1 + 3 * m + 3)) (.comp (.call "_law_least" (.cons (.var 0) (.cons (.var 1) (.cons (.var 2) (.cons (.var 3) (.cons (.var 6) (.cons (.var 4) .nil))))))) (.nm 6) (.it (.call "_law_degrees" (.cons (.var 0) (.cons (.var 1) (.cons (.var 3) .nil))))) .non [6]) [some (.t (toldT ds w0 door s0)), some (I k), some (I s), some (I w), some (.h 0), some (.t (.tup [.int k, .int s, .int w])), none] (K1 kvs)) fun ys st' => ys = ((upto (min (ds[k]).g w)).map fun i => T.int (lo door ds[k] (ds.drop (k + 1)) s w i)).map D.t ∧ ∃ kvs', st' = K1 kvs' ∧ Ext door ds (k + 1) kvs kvs' := by
          rw [evalL, hdeg, R.bind_ok]
          refine (comp_J (fun st => ∃ kvs', st = K1 kvs' ∧ Ext door ds (k + 1) kvs kvs') (upto (min (ds[k]).g w)) (fun i => I i) (fun i => I (lo door ds[k] (ds.drop (k + 1)) s w i)) (by simp) ⟨kvs, rfl, Ext.refl hm⟩ (fun i hi st => ?_) (by unfold upto; simp; omega)).mono ?_
          · rintro ⟨kv1, rfl, hE⟩
            have hi := mem_upto.mp hi
            have ih' := ih n (k + 1) (by omega)
            rw [show n + 3 * m + 2 = n + 1 + 3 * m + 1 from by omega] at ih'
            obtain ⟨kv2, e, hE2⟩ := l_least (kvs := kv1) (n := n + 1 + 3 * m) (s := s) (w := w) (i := i) hl hkl hp hi.1 (by omega) (by omega) h1 h2 h4 ih' hE.memo
            show Ok ((ofOpt (K1 kv1) (some [some (.t (toldT ds w0 door s0)), some (I k), some (I s), some (I w), some (.h 0), some (.t (.tup [.int k, .int s, .int w])), some (I i)])).bind _) _
            rw [ofOpt_some, R.bind_ok]
            simp only [condO, R.bind_ok]
            have hev : evalE TT (callN TT (n + 1 + 3 * m + 3)) (.call "_law_least" (.cons (.var 0) (.cons (.var 1) (.cons (.var 2) (.cons (.var 3) (.cons (.var 6) (.cons (.var 4) .nil))))))) [some (.t (toldT ds w0 door s0)), some (I k), some (I s), some (I w), some (.h 0), some (.t (.tup [.int k, .int s, .int w])), some (I i)] (K1 kv1) = .ok (I (lo door ds[k] (ds.drop (k + 1)) s w i)) (K1 kv2) := by
              rw [e_call (es_cons0 (ve 0 rfl) (es_cons0 (ve 1 rfl) (es_cons0 (ve 2 rfl) (es_cons0 (ve 3 rfl) (es_cons0 (ve 6 rfl) (es_cons0 (ve 4 rfl) es_nil0))))))]
              exact law_call (F := F__law_least) (args := [.t (toldT ds w0 door s0), I (k : Int), I s, I w, I i]) rfl rfl (by simp) e
            rw [hev]
            exact ⟨rfl, kv2, rfl, hE.trans hE2⟩
          · rintro ys st' ⟨rfl, h⟩
            refine ⟨?_, h⟩
            simp
        obtain ⟨ys, st', e, rfl, kv, rfl, hE⟩ := hcm.eq
        have hNv : N door (ds.drop k) s w = maxL ((upto (min (ds[k]).g w)).map fun i => lo door ds[k] (ds.drop (k + 1)) s w i) := by
          have hdr : ds.drop k = ds[k] :: ds.drop (k + 1) := List.drop_eq_getElem_cons hkl
          rw [hdr] at hp ⊢
          exact N_cons hp
        obtain ⟨hno, hE2⟩ := hE.put hlk2 (by omega) h1 h2 h3 h4
        have hmx : evalE TT (callN TT (n + 1 + 3 * m + 3)) (.bi .max (.cons (.fr (.comp (.call "_law_least" (.cons (.var 0) (.cons (.var 1) (.cons (.var 2) (.cons (.var 3) (.cons (.var 6) (.cons (.var 4) .nil))))))) (.nm 6) (.it (.call "_law_degrees" (.cons (.var 0) (.cons (.var 1) (.cons (.var 3) .nil))))) .non [6])) .nil)) [some (.t (toldT ds w0 door s0)), some (I k), some (I s), some (I w), some (.h 0), some (.t (.tup [.int k, .int s, .int w])), none] (K1 kvs) = .ok (I (N door (ds.drop k) s w)) (K1 kv) := by
          refine e_bi (e_fr e) ?_
          have := bi_max (st := K1 kv) (l := (upto (min (ds[k]).g w)).map fun i => lo door ds[k] (ds.drop (k + 1)) s w i) (map_ne (upto_ne (by omega)))
          rw [List.map_map] at this
          rw [hNv]
          exact this
        have hset : execS TT (callN TT (n + 1 + 3 * m + 3)) (.if_ (.cmp .notIn (.var 5) (.var 4)) F__law_need_2a_0 .nil) [some (.t (toldT ds w0 door s0)), some (I k), some (I s), some (I w), some (.h 0), some (.t (.tup [.int k, .int s, .int w])), none] (K1 kvs) = .nx [some (.t (toldT ds w0 door s0)), some (I k), some (I s), some (I w), some (.h 0), some (.t (.tup [.int k, .int s, .int w])), none] (K1 (kv ++ [([(k : Int), s, w], .int (N door (ds.drop k) s w))])) := by
          rw [x_if_t hin]
          unfold F__law_need_2a_0
          rw [s_cons (x_setI hmx (ve 4 rfl) (ve 5 rfl) (st4 := K1 (kv ++ [([(k : Int), s, w], .int (N door (ds.drop k) s w))])) ?_)]
          · rfl
          · show (if List.lookup [(k : Int), s, w] kv = none ∧ kv.length < 1000000 then _ else none) = _
            rw [if_pos ⟨hno, hE.memo.small⟩]
            rfl
        rw [s_cons hset, hrd _ _ (lookup_app hno)]
        exact ⟨_, rfl, hE2⟩
    · refine ⟨kvs, ?_, Ext.refl hm⟩
      have hp' : hasP (ds.drop k) = false := by simpa using hp
      rw [decide_eq_true (by by_cases c : (k : Int) ≤ Nd.last ds; exact absurd (hll.mp c) hp; omega)] at hc
      rw [s_if_rt hc (x := I 0) (st'' := K1 kvs) (s_ret rfl), N_no hp']
      rfl
theorem need_top {n : Nat} (hg : GOk ds) (hl : ds.length ≤ 12) : NeedOk ds door w0 s0 (n + 38) 0 := by
  have := law_need (door := door) (w0 := w0) (s0 := s0) hg hl ds.length (n + 36 - 3 * ds.length) 0 (by omega)
  rw [show n + 36 - 3 * ds.length + 3 * ds.length + 2 = n + 38 from by omega] at this
  exact this
theorem s_law_whole {n : Nat} {w s : Int} {st : Store} (h : HOk ds w door s) : callD TT (callN TT (n + 39)) "_law_whole" [.t (toldT ds w door s)] st = .ok (I (N door ds s w)) st := by
  obtain ⟨kvs', e, _⟩ := need_top (n := n) (door := door) (w0 := w) (s0 := s) h.g h.l s w [] h.s0 h.s8 h.w0 h.w12 Memo.nil
  refine call_tree (F := F__law_whole) (st' := K1 kvs') rfl rfl (by simp) ?_
  rw [callN_succ (F := F__law_whole) rfl rfl]
  show endF (execSs TT (callN TT (n + 38)) F__law_whole_0 [some (.t (toldT ds w door s))] []) = _
  unfold F__law_whole_0
  have hmud : ∀ ρ, evalE TT (callN TT (n + 38)) .mud ρ [] = .ok (.h 0) (K1 []) := fun ρ => by rw [evalE]; rfl
  rw [s_ret (x := I (N door ds s w)) (st' := K1 kvs') (by
    rw [e_call (es_cons0 (ve 0 rfl) (es_cons0 (x := I 0) (st' := []) rfl (es_cons0 (e_sub (ve 0 rfl) (st'' := []) (y := I 3) rfl to_3) (es_cons0 (e_sub (ve 0 rfl) (st'' := []) (y := I 1) rfl to_1) (es_cons0 (hmud _) es_nil0)))))]
    exact law_call (F := F__law_need) (args := [.t (toldT ds w door s), I 0, I s, I w]) rfl rfl (by simp) e)]
  rfl
end
end K12
end

section
set_option Elab.async false
set_option linter.all false
set_option maxRecDepth 100000
set_option maxHeartbeats 4000000
namespace K12
open PySem Ice Pl Nd
section
variable {n i : Nat} {ns : List Int} {o o1 : O} {st : Store} {ρ : Ice.Env} {a : Ex} {m : Int} {xs : List T}
theorem ev_tk (h1 : ρ[i]? = some (some (.h 0))) (ho : Row ns o1) (ha : evalE TT (callN TT (n + 1)) a ρ (o :: st) = .ok (I m) (o1 :: st)) (hm : 0 < m) (hm2 : m < 1073741824) :
    ∃ v o', evalE TT (callN TT (n + 1)) (.call "_law_taken" (.cons (.var i) (.cons a .nil))) ρ (o :: st) = .ok (I v) (o' :: st) ∧ (0 ≤ v ∧ v < m) ∧ Row ns o' := by
  obtain ⟨d, st', e, v, o', rfl, h0, h1', h2, rfl⟩ := (s_taken (n := n) (st := st) ho hm hm2).eq
  exact ⟨v, o', by rw [e_call2 (ve i h1) ha]; exact e, ⟨h0, h1'⟩, h2⟩
theorem ev_tkl (h1 : ρ[i]? = some (some (.h 0))) (ho : Row ns o) (j : Int) (hm : 0 < j) (hm2 : j < 1073741824) :
    ∃ v o', evalE TT (callN TT (n + 1)) (.call "_law_taken" (.cons (.var i) (.cons (.lit (.int j)) .nil))) ρ (o :: st) = .ok (I v) (o' :: st) ∧ (0 ≤ v ∧ v < j) ∧ Row ns o' := ev_tk h1 ho (o1 := o) rfl hm hm2
theorem ev_pk (h1 : ρ[i]? = some (some (.h 0))) (ho : Row ns o1) (ha : evalE TT (callN TT (n + 2)) a ρ (o :: st) = .ok (.t (.lst xs)) (o1 :: st)) (hx : 0 < xs.length) (hx2 : xs.length ≤ 1000) :
    ∃ x o', evalE TT (callN TT (n + 2)) (.call "_law_pick" (.cons (.var i) (.cons a .nil))) ρ (o :: st) = .ok (.t x) (o' :: st) ∧ x ∈ xs ∧ Row ns o' := by
  obtain ⟨d, st', e, x, o', hx, rfl, h2, rfl⟩ := (s_pick (n := n) (st := st) ho hx hx2).eq
  exact ⟨x, o', by rw [e_call2 (ve i h1) ha]; exact e, hx, h2⟩
theorem e_list {P : Tab} {cf : CallF} {es : Exs} {st st' : Store} (h : evalEs P cf es ρ st = .ok (xs.map D.t) st') (hl : xs.length ≤ 1000000) : evalE P cf (.fr (.disp es)) ρ st = .ok (.t (.lst xs)) st' := by
  refine e_fr ?_
  rw [evalL, h, R.bind_ok]
  unfold few
  rw [if_pos (by rw [List.length_map]; exact decide_eq_true hl)]
  rfl
theorem s_law_house {ho : Row ns o} : Ok (callD TT (callN TT (n + 3)) "_law_house" [.h 0] (o :: st)) fun d st' => ∃ ds w dr s o', d = .t (toldT ds w dr s) ∧ DaysOk ds ∧ NumOk w dr s ∧ Row ns o' ∧ st' = o' :: st := by
  have key : Ok (callN TT (n + 3) "_law_house" [.h 0] [o]) fun d st' => ∃ ds w dr s o' x, d = .t (toldT ds w dr s) ∧ DaysOk ds ∧ NumOk w dr s ∧ Row ns o' ∧ st' = [o', x] := by
    rw [callN_succ (F := F__law_house) rfl rfl]
    show Ok (endF (execSs TT (callN TT (n + 2)) F__law_house_0 [some (.h 0), none, none, none] [o])) _
    rw [Ok_endF]
    unfold F__law_house_0
    rw [s_cons (x_asg (x := .h 1) (st' := [o, .lst []]) rfl (by simp))]
    show En (execSs TT (callN TT (n + 2)) F__law_house_1 [some (.h 0), some (.h 1), none, none] [o, .lst []]) _ _
    unfold F__law_house_1
    -- how many days
    obtain ⟨x, o1, e1, hx, ho1⟩ := ev_pk (n := n) (i := 0) (ρ := [some (.h 0), some (.h 1), none, none]) (o := o) (o1 := o) (st := [.lst []]) (a := .fr (.disp (.cons (.lit (.int 3)) (.cons (.lit (.int 5)) (.cons (.lit (.int 5)) (.cons (.lit (.int 7)) .nil)))))) (xs := [.int 3, .int 5, .int 5, .int 7]) rfl ho rfl (by simp) (by simp)
    obtain ⟨m, rfl, hm⟩ : ∃ m : Int, x = .int m ∧ 3 ≤ m ∧ m ≤ 7 := by
      simp only [List.mem_cons, List.not_mem_nil, or_false] at hx
      rcases hx with rfl | rfl | rfl | rfl <;> exact ⟨_, rfl, by omega, by omega⟩
    obtain ⟨v, o2, e2, hv, ho2⟩ := ev_tk (n := n + 1) (i := 0) (ρ := [some (.h 0), some (.h 1), none, none]) (st := [.lst []]) rfl ho1 e1 (by omega) (by omega)
    have hr : evalI TT (callN TT (n + 2)) (.range (.cons (.bin .add (.lit (.int 1)) (.call "_law_taken" (.cons (.var 0) (.cons (.call "_law_pick" (.cons (.var 0) (.cons (.fr (.disp (.cons (.lit (.int 3)) (.cons (.lit (.int 5)) (.cons (.lit (.int 5)) (.cons (.lit (.int 7)) .nil)))))) .nil))) .nil)))) .nil)) [some (.h 0), some (.h 1), none, none] [o, .lst []] = .ok (.rng 0 1 (1 + v).toNat) [o2, .lst []] := by
      have hadd := e_bin (P := TT) (cf := callN TT (n + 2)) (ρ := [some (.h 0), some (.h 1), none, none]) (st := [o, .lst []]) (o := .add) (a := .lit (.int 1)) (x := I 1) (st' := [o, .lst []]) rfl e2 bin_add
      simp only [evalI, evalEs, hadd, R.bind_ok, rangeI]
      rw [if_pos (by omega)]
      rfl
    rw [execSs, execS, hr]
    rw [En_nxt]
    show En (forL _ _ _ _ _ _ _) _ _
    refine En_for_rng (fun j ρ st => ∃ ds : List Day, ds.length = j ∧ (∀ d ∈ ds, DayOk d) ∧ (∃ o', Row ns o' ∧ st = [o', .lst ((ds.map Day.t).map D.t)]) ∧ ρ[0]? = some (some (.h 0)) ∧ ρ[1]? = some (some (.h 1)) ∧ ρ.length = 4) ⟨[], rfl, by simp, ⟨o2, ho2, rfl⟩, rfl, rfl, rfl⟩ (fun j hj ρ st hJ => ?_) (fun ρ st hJ => ?_)
    · obtain ⟨ds, hdl, hds, ⟨o', ho', rfl⟩, h0, h1, hl⟩ := hJ
      refine ⟨ρ.set 2 (some (I (0 + (j : Int) * 1))), by simp [bindT, hl], ?_⟩
      generalize hρ' : ρ.set 2 (some (I (0 + (j : Int) * 1))) = ρ'
      have g0 : ρ'[0]? = some (some (.h 0)) := by rw [← hρ', List.getElem?_set_ne (by omega)]; exact h0
      have g1 : ρ'[1]? = some (some (.h 1)) := by rw [← hρ', List.getElem?_set_ne (by omega)]; exact h1
      have gl : ρ'.length = 4 := by rw [← hρ', List.length_set]; exact hl
      unfold F__law_house_1a_0
      obtain ⟨p1, q1, f1, b1, r1⟩ := ev_tkl (n := n + 1) (i := 0) (ρ := ρ') (st := [.lst ((ds.map Day.t).map D.t)]) g0 ho' 12 (by omega) (by omega)
      obtain ⟨p2, q2, f2, b2, r2⟩ := ev_tkl (n := n + 1) (i := 0) (ρ := ρ') (st := [.lst ((ds.map Day.t).map D.t)]) g0 r1 51 (by omega) (by omega)
      have hlst := e_list (ρ := ρ') (P := TT) (cf := callN TT (n + 2)) (xs := [.int 0, .int 1, .int 5, .int p1, .int p2]) (es_cons0 (a := .lit (.int 0)) (x := I 0) (st' := o' :: [.lst ((ds.map Day.t).map D.t)]) rfl (es_cons0 (a := .lit (.int 1)) (x := I 1) (st' := o' :: [.lst ((ds.map Day.t).map D.t)]) rfl (es_cons0 (a := .lit (.int 5)) (x := I 5) (st' := o' :: [.lst ((ds.map Day.t).map D.t)]) rfl (es_cons0 f1 (es_cons0 f2 es_nil0))))) (by simp)
      obtain ⟨x, q3, f3, hx, r3⟩ := ev_pk (n := n) (i := 0) (ρ := ρ') g0 r2 hlst (by simp) (by simp)
      obtain ⟨p, rfl, hp⟩ : ∃ p : Int, x = .int p ∧ 0 ≤ p ∧ p ≤ 50 := by
        simp only [List.mem_cons, List.not_mem_nil, or_false] at hx
        rcases hx with rfl | rfl | rfl | rfl | rfl <;> exact ⟨_, rfl, by omega, by omega⟩
      rw [s_cons (x_asg f3 (by omega))]
      generalize hρ2 : ρ'.set 3 (some (.t (.int p))) = ρ2
      have k0 : ρ2[0]? = some (some (.h 0)) := by rw [← hρ2, List.getElem?_set_ne (by omega)]; exact g0
      have k1 : ρ2[1]? = some (some (.h 1)) := by rw [← hρ2, List.getElem?_set_ne (by omega)]; exact g1
      have k3 : ρ2[3]? = some (some (I p)) := by rw [← hρ2, List.getElem?_set_self (by omega)]
      have kl : ρ2.length = 4 := by rw [← hρ2, List.length_set]; exact gl
      unfold F__law_house_1a_1
      obtain ⟨p4, q4, f4, b4, r4⟩ := ev_tkl (n := n + 1) (i := 0) (ρ := ρ2) (st := [.lst ((ds.map Day.t).map D.t)]) k0 r3 4 (by omega) (by omega)
      obtain ⟨x, q5, f5, hx, r5⟩ := ev_pk (n := n) (i := 0) (ρ := ρ2) (o := q4) (o1 := q4) (st := [.lst ((ds.map Day.t).map D.t)]) (a := .fr (.disp (.cons (.lit (.int 4)) (.cons (.lit (.int 10)) .nil)))) (xs := [.int 4, .int 10]) k0 r4 rfl (by simp) (by simp)
      obtain ⟨m5, rfl, hm5⟩ : ∃ p : Int, x = .int p ∧ 4 ≤ p ∧ p ≤ 10 := by
        simp only [List.mem_cons, List.not_mem_nil, or_false] at hx
        rcases hx with rfl | rfl <;> exact ⟨_, rfl, by omega, by omega⟩
      obtain ⟨p6, q6, f6, b6, r6⟩ := ev_tk (n := n + 1) (i := 0) (ρ := ρ2) k0 r5 f5 (by omega) (by omega)
      obtain ⟨p7, q7, f7, b7, r7⟩ := ev_tkl (n := n + 1) (i := 0) (ρ := ρ2) (st := [.lst ((ds.map Day.t).map D.t)]) k0 r6 4 (by omega) (by omega)
      rw [s_cons (x_app (st3 := [q7, .lst (((ds ++ [(⟨p, p4, p6, p7⟩ : Day)]).map Day.t).map D.t)]) (ve 1 k1) rfl (e_tup (xs := [.int p, .int p4, .int p6, .int p7]) (es_cons0 (ve 3 k3) (es_cons0 f4 (es_cons0 f6 (es_cons0 f7 es_nil0)))) (by simp)) ?_)]
      · rw [execSs, En_nx]
        refine ⟨ds ++ [⟨p, p4, p6, p7⟩], by simp [hdl], ?_, ⟨q7, r7, rfl⟩, k0, k1, kl⟩
        intro d hd
        rcases List.mem_append.mp hd with hd | hd
        · exact hds d hd
        · rw [List.mem_singleton.mp hd]
          exact ⟨⟨hp.1, hp.2⟩, ⟨b4.1, by show p4 ≤ 20; omega⟩, ⟨b6.1, by show p6 ≤ 9; omega⟩, b7.1, by show p7 ≤ 5; omega⟩
      · have hf : fits ((ds.map Day.t).map D.t).length = true := decide_eq_true (by simp; omega)
        show ((if fits ((ds.map Day.t).map D.t).length then some ((ds.map Day.t).map D.t ++ [.t (.tup [.int p, .int p4, .int p6, .int p7])]) else none).map fun ys => [q7, O.lst ys]) = _
        rw [hf]
        simp [Day.t]
    · obtain ⟨ds, hdl, hds, ⟨o', ho', rfl⟩, h0, h1, hl⟩ := hJ
      have hlen : 1 ≤ ds.length ∧ ds.length ≤ 12 := by omega
      unfold F__law_house_2
      obtain ⟨v, q1, f1, b1, r1⟩ := ev_tkl (n := n + 1) (i := 0) (ρ := ρ) (st := [.lst ((ds.map Day.t).map D.t)]) h0 ho' 40 (by omega) (by omega)
      have hc := e_cmp (o := .eq) f1 (b := .lit (.int 0)) (y := I 0) (st'' := q1 :: [.lst ((ds.map Day.t).map D.t)]) rfl cmp_eqi
      by_cases c : v = 0
      · rw [decide_eq_true c] at hc
        rw [execSs, x_if_t hc]
        unfold F__law_house_2a_0
        obtain ⟨p2, q2, f2, b2, r2⟩ := ev_tkl (n := n + 1) (i := 0) (ρ := ρ) (st := [.lst ((ds.map Day.t).map D.t)]) h0 r1 6 (by omega) (by omega)
        obtain ⟨p3, q3, f3, b3, r3⟩ := ev_tkl (n := n + 1) (i := 0) (ρ := ρ) (st := [.lst ((ds.map Day.t).map D.t)]) h0 r2 3 (by omega) (by omega)
        rw [s_ret (e_tup (xs := [dsT (List.replicate 12 ⟨50, 20, 9, 5⟩), .int p2, .int 9, .int p3]) (es_cons0 (x := .t (dsT (List.replicate 12 ⟨50, 20, 9, 5⟩))) (st' := q1 :: [.lst ((ds.map Day.t).map D.t)]) rfl (es_cons0 f2 (es_cons0 (x := I 9) (st' := q2 :: [.lst ((ds.map Day.t).map D.t)]) rfl (es_cons0 f3 es_nil0)))) (by simp))]
        refine ⟨_, p2, 9, p3, q3, _, rfl, ⟨by simp, ?_⟩, ⟨⟨b2.1, by omega⟩, ⟨by omega, by omega⟩, b3.1, by omega⟩, r3, rfl⟩
        intro d hd
        rw [(List.mem_replicate.mp hd).2]
        exact ⟨⟨by decide, by decide⟩, ⟨by decide, by decide⟩, ⟨by decide, by decide⟩, by decide, by decide⟩
      · rw [decide_eq_false c] at hc
        rw [s_cons (x_if0 hc)]
        unfold F__law_house_3
        obtain ⟨x, q2, f2, hx, r2⟩ := ev_pk (n := n) (i := 0) (ρ := ρ) (o := q1) (o1 := q1) (st := [.lst ((ds.map Day.t).map D.t)]) (a := .fr (.disp (.cons (.lit (.int 4)) (.cons (.lit (.int 8)) (.cons (.lit (.int 13)) .nil))))) (xs := [.int 4, .int 8, .int 13]) h0 r1 rfl (by simp) (by simp)
        obtain ⟨m2, rfl, hm2⟩ : ∃ p : Int, x = .int p ∧ 4 ≤ p ∧ p ≤ 13 := by
          simp only [List.mem_cons, List.not_mem_nil, or_false] at hx
          rcases hx with rfl | rfl | rfl <;> exact ⟨_, rfl, by omega, by omega⟩
        obtain ⟨p3, q3, f3, b3, r3⟩ := ev_tk (n := n + 1) (i := 0) (ρ := ρ) h0 r2 f2 (by omega) (by omega)
        obtain ⟨p4, q4, f4, b4, r4⟩ := ev_tkl (n := n + 1) (i := 0) (ρ := ρ) (st := [.lst ((ds.map Day.t).map D.t)]) h0 r3 4 (by omega) (by omega)
        obtain ⟨x, q5, f5, hx, r5⟩ := ev_pk (n := n) (i := 0) (ρ := ρ) (o := q4) (o1 := q4) (st := [.lst ((ds.map Day.t).map D.t)]) (a := .fr (.disp (.cons (.lit (.int 2)) (.cons (.lit (.int 4)) (.cons (.lit (.int 4)) (.cons (.lit (.int 9)) .nil)))))) (xs := [.int 2, .int 4, .int 4, .int 9]) h0 r4 rfl (by simp) (by simp)
        obtain ⟨m5, rfl, hm5⟩ : ∃ p : Int, x = .int p ∧ 2 ≤ p ∧ p ≤ 9 := by
          simp only [List.mem_cons, List.not_mem_nil, or_false] at hx
          rcases hx with rfl | rfl | rfl | rfl <;> exact ⟨_, rfl, by omega, by omega⟩
        obtain ⟨p6, q6, f6, b6, r6⟩ := ev_tk (n := n + 1) (i := 0) (ρ := ρ) h0 r5 f5 (by omega) (by omega)
        have htup : evalE TT (callN TT (n + 2)) (.bi .tuple (.cons (.var 1) .nil)) ρ (q1 :: [.lst ((ds.map Day.t).map D.t)]) = .ok (.t (dsT ds)) (q1 :: [.lst ((ds.map Day.t).map D.t)]) := by
          refine e_bi (ve 1 h1) ?_
          unfold biD one tupD
          show (some ((ds.map Day.t).map D.t)).bind (fun xs => (trees xs).map fun ys => D.t (.tup ys)) = _
          rw [Option.bind_some, trees_t]
          rfl
        rw [s_ret (e_tup (xs := [dsT ds, .int p3, .int p4, .int p6]) (es_cons0 htup (es_cons0 f3 (es_cons0 f4 (es_cons0 f6 es_nil0)))) (by simp))]
        exact ⟨ds, p3, p4, p6, q6, _, rfl, ⟨hlen, hds⟩, ⟨⟨b3.1, by omega⟩, ⟨b4.1, by omega⟩, b6.1, by omega⟩, r6, rfl⟩
  obtain ⟨d, st', e, ds, w, dr, s, o', x, rfl, hd, hn, ⟨i', s', r', rfl, h2⟩, rfl⟩ := key.eq
  obtain ⟨i, s0, r, rfl, hi⟩ := ho
  rw [call_fill (F := F__law_house) rfl rfl]
  unfold callD0
  have hr : reach (RO ns i s0 r :: st) [.h 0] = [0] := rfl
  have hk : okKs [0] (RO ns i s0 r :: st) [.h 0] = true := by
    unfold okKs
    simp [inKs, objIn, RO]
  have hs : subS [0] (RO ns i s0 r :: st) = [RO ns i s0 r] := rfl
  have ha : [D.h 0].map (renD [0]) = [.h 0] := rfl
  rw [hr]
  simp only [hk, hs, ha, e]
  rw [if_neg (by decide)]
  show Ok (R.ok (D.t (toldT ds w dr s)) (backS [0] (RO ns i s0 r :: st) [RO ns i' s' r', x] (closedS 1 [RO ns i' s' r', x]))) _
  have hb : backS [0] (RO ns i s0 r :: st) [RO ns i' s' r', x] (closedS 1 [RO ns i' s' r', x]) = RO ns i' s' r' :: st := by
    rw [show closedS 1 [RO ns i' s' r', x] = true from rfl]
    unfold backS
    rw [if_pos rfl, List.append_nil]
    rfl
  rw [hb]
  exact ⟨ds, w, dr, s, _, rfl, hd, hn, ⟨i', s', r', rfl, h2⟩, rfl⟩
end
end K12
end

section
set_option Elab.async false
set_option linter.all false
set_option maxRecDepth 100000
set_option maxHeartbeats 4000000
namespace K12
open PySem Ice Pl Nd
section
variable {n : Nat} {st : Store} {x : T} {ds : List Day} {door w s : Int} {y : T}
theorem s_win {a b : Int} (hx : Scal x) : callD TT (callN TT (n + 2)) "is_within" [.t x, I a, I b] st = .ok (B (inB x a b)) st := by
  rcases hx with ⟨i, rfl⟩ | rfl | ⟨b', rfl⟩
  · exact s_within
  · exact call_tree (F := F_is_within) (st' := []) rfl rfl (by simp) rfl
  · refine call_tree (F := F_is_within) (st' := []) rfl rfl (by simp) ?_
    cases b' <;> rfl
theorem s_check_ice (hx : Scal x) (h : inB x 0 100000 = true) : callD TT (callN TT (n + 3)) "check_ice" [.t x] st = .ok (.t .non) st := by
  refine call_tree (F := F_check_ice) (st' := []) rfl rfl (by simp) ?_
  rw [callN_succ (F := F_check_ice) rfl rfl]
  show endF (execSs TT (callN TT (n + 2)) F_check_ice_0 [some (.t x)] []) = _
  unfold F_check_ice_0
  rw [s_cons (x_if0 (e_nt (k := true) (by rw [e_call3 (ve 0 rfl) (y := I 0) (st'' := []) rfl (e_glb (v := .int 100000) rfl), s_win hx, h])))]
  rfl
theorem x_check_ice (hx : Scal x) (h : inB x 0 100000 = false) : callD TT (callN TT (n + 3)) "check_ice" [.t x] st = .ex (exOf "BadIce" x) st := by
  refine call_ex (F := F_check_ice) (st' := []) rfl rfl (by simp) ?_
  rw [callN_succ (F := F_check_ice) rfl rfl]
  show endF (execSs TT (callN TT (n + 2)) F_check_ice_0 [some (.t x)] []) = _
  unfold F_check_ice_0 F_check_ice_0a_0
  rw [s_if_ex (e_nt (k := false) (by rw [e_call3 (ve 0 rfl) (y := I 0) (st'' := []) rfl (e_glb (v := .int 100000) rfl), s_win hx, h])) (s_raise (ve 0 rfl) rfl rfl)]
  rfl
section
variable {cf : CallF} {ρ : Ice.Env}
theorem ev_hlen {i : Nat} (h : ρ[i]? = some (some (.t (houseT ds w door s)))) : evalE TT cf (.bi .len (.cons (.att (.var i) "days") .nil)) ρ st = .ok (I ds.length) st := by
  refine e_bi (e_att (ve i h) h_days) ?_
  show (lenD st (.t (dsT ds))) = _
  rw [len_sq sq_ds]
  simp
end
theorem c_check_day (hx : Scal x) : evalE TT (callN TT (n + 2)) (.nt (.call "is_within" (.cons (.var 1) (.cons (.lit (.int 0)) (.cons (.bin .sub (.bi .len (.cons (.att (.var 0) "days") .nil)) (.lit (.int 1))) .nil))))) [some (.t (houseT ds w door s)), some (.t x)] st = .ok (B (!inB x 0 ((ds.length : Int) - 1))) st := by
  refine e_nt ?_
  rw [e_call3 (ve 1 rfl) (y := I 0) (st'' := st) rfl (e_bin (ev_hlen rfl) (b := .lit (.int 1)) (y := I 1) (st'' := st) rfl bin_sub), s_win hx]
theorem s_check_day (hx : Scal x) (h : inB x 0 ((ds.length : Int) - 1) = true) : callD TT (callN TT (n + 3)) "check_day" [.t (houseT ds w door s), .t x] st = .ok (.t .non) st := by
  refine call_tree (F := F_check_day) (st' := []) rfl rfl (by simp) ?_
  rw [callN_succ (F := F_check_day) rfl rfl]
  show endF (execSs TT (callN TT (n + 2)) F_check_day_0 [some (.t (houseT ds w door s)), some (.t x)] []) = _
  unfold F_check_day_0
  rw [s_cons (x_if0 (by rw [c_check_day hx, h]; rfl))]
  rfl
theorem x_check_day (hx : Scal x) (h : inB x 0 ((ds.length : Int) - 1) = false) : callD TT (callN TT (n + 3)) "check_day" [.t (houseT ds w door s), .t x] st = .ex (exOf "BadDay" x) st := by
  refine call_ex (F := F_check_day) (st' := []) rfl rfl (by simp) ?_
  rw [callN_succ (F := F_check_day) rfl rfl]
  show endF (execSs TT (callN TT (n + 2)) F_check_day_0 [some (.t (houseT ds w door s)), some (.t x)] []) = _
  unfold F_check_day_0 F_check_day_0a_0
  rw [s_if_ex (by rw [c_check_day hx, h]; rfl) (s_raise (ve 1 rfl) rfl rfl)]
  rfl
end
/-! ### days changed -/
def setP (ds : List Day) (k : Nat) (p : Int) : List Day := ds.take k ++ ((ds.drop k).take 1).map (fun d => { d with p := p }) ++ ds.drop (k + 1)
def cutP (ds : List Day) (k : Nat) : List Day := ds.take k ++ (ds.drop k).map fun d => { d with p := 0 }
theorem cut_to {xs : List T} {k : Nat} : cutL xs none (some (k : Int)) = xs.take k := by
  unfold cutL
  rw [HT.sIx_none, HT.sIx_nat, List.drop_zero, Nat.sub_zero]
  rw [List.take_eq_take_iff]
  omega
theorem cut_from {xs : List T} {k : Nat} : cutL xs (some (k : Int)) none = xs.drop k := by
  unfold cutL
  rw [HT.sIx_none, HT.sIx_nat]
  by_cases h : k ≤ xs.length
  · rw [Nat.min_eq_left h, List.take_of_length_le (by simp)]
  · rw [Nat.min_eq_right (by omega), List.drop_eq_nil_of_le (Nat.le_refl _), List.drop_eq_nil_of_le (by omega)]
    simp
theorem setP_at {ds : List Day} {k : Nat} (hk : k < ds.length) {p : Int} : setP ds k p = ds.take k ++ { ds[k] with p := p } :: ds.drop (k + 1) := by
  unfold setP
  rw [List.drop_eq_getElem_cons hk, List.append_assoc]
  rfl
theorem len_setP {ds : List Day} {k : Nat} (hk : k < ds.length) {p : Int} : (setP ds k p).length = ds.length := by
  rw [setP_at hk]
  simp
  omega
theorem len_cutP {ds : List Day} {k : Nat} : (cutP ds k).length = ds.length := by
  unfold cutP
  simp
  omega
theorem mem_setP {ds : List Day} {k : Nat} {p : Int} {d : Day} (h : d ∈ setP ds k p) : d ∈ ds ∨ ∃ e ∈ ds, d = { e with p := p } := by
  unfold setP at h
  simp only [List.mem_append, List.mem_map] at h
  rcases h with (h | ⟨e, he, rfl⟩) | h
  · exact .inl (List.mem_of_mem_take h)
  · exact .inr ⟨e, List.mem_of_mem_drop (List.mem_of_mem_take he), rfl⟩
  · exact .inl (List.mem_of_mem_drop h)
theorem mem_cutP {ds : List Day} {k : Nat} {d : Day} (h : d ∈ cutP ds k) : d ∈ ds ∨ ∃ e ∈ ds, d = { e with p := 0 } := by
  unfold cutP at h
  simp only [List.mem_append, List.mem_map] at h
  rcases h with h | ⟨e, he, rfl⟩
  · exact .inl (List.mem_of_mem_take h)
  · exact .inr ⟨e, List.mem_of_mem_drop he, rfl⟩
theorem ok_setP {ds : List Day} {k : Nat} {p : Int} (h : DaysOk ds) (hk : k < ds.length) (h0 : 0 ≤ p) (h1 : p ≤ 50) : DaysOk (setP ds k p) := by
  refine ⟨by rw [len_setP hk]; exact h.1, fun d hd => ?_⟩
  rcases mem_setP hd with q | ⟨e, he, rfl⟩
  · exact h.2 d q
  · exact ⟨⟨h0, h1⟩, (h.2 e he).2⟩
theorem ok_cutP {ds : List Day} {k : Nat} (h : DaysOk ds) : DaysOk (cutP ds k) := by
  refine ⟨by rw [len_cutP]; exact h.1, fun d hd => ?_⟩
  rcases mem_cutP hd with q | ⟨e, he, rfl⟩
  · exact h.2 d q
  · exact ⟨⟨Int.le_refl 0, by show (0 : Int) ≤ 50; decide⟩, (h.2 e he).2⟩
theorem hok {ds : List Day} {w door s : Int} (h : DaysOk ds) (hn : NumOk w door s) : HOk ds w door s := ⟨fun d hd => (h.2 d hd).2.2.2, h.1.2, hn.1.1, hn.1.2, hn.2.2.1, hn.2.2.2⟩
section
variable {ds : List Day} {door w s : Int} {st : Store} {n : Nat} {cf : CallF} {ρ : Ice.Env}
theorem e_days_to {a : Ex} {e : Ex} {k : Nat} (ha : evalE TT cf a ρ st = .ok (.t (dsT ds)) st) (he : evalE TT cf e ρ st = .ok (I (k : Int)) st) : evalE TT cf (.cut a .non (.som e)) ρ st = .ok (.t (dsT (ds.take k))) st := by
  rw [e_cut (xs := ds.map Day.t) ha o_non (o_som he), cut_to]
  unfold dsT
  rw [List.map_take]
theorem e_days_from {a : Ex} {e : Ex} {k : Nat} (ha : evalE TT cf a ρ st = .ok (.t (dsT ds)) st) (he : evalE TT cf e ρ st = .ok (I (k : Int)) st) : evalE TT cf (.cut a (.som e) .non) ρ st = .ok (.t (dsT (ds.drop k))) st := by
  rw [e_cut (xs := ds.map Day.t) ha (o_som he) o_non, cut_from]
  unfold dsT
  rw [List.map_drop]
theorem e_day_tail {a : Ex} {d : Day} (ha : evalE TT cf a ρ st = .ok (.t d.t) st) : evalE TT cf (.cut a (.som (.lit (.int 1))) .non) ρ st = .ok (.t (.tup [.int d.m, .int d.r, .int d.g])) st :=
  e_cut (xs := [.int d.p, .int d.m, .int d.r, .int d.g]) ha (o_som (i := 1) rfl) o_non
theorem it_ds : items st (.t (dsT ds)) = some ((ds.map Day.t).map D.t) := rfl
theorem s_with_promise {k : Nat} {p : Int} (hk : k < ds.length) (hl : ds.length ≤ 12) : callD TT (callN TT (n + 1)) "with_promise" [.t (houseT ds w door s), I (k : Int), I p] st = .ok (.t (dsT (setP ds k p))) st := by
  refine call_tree (F := F_with_promise) (st' := []) rfl rfl (by simp) ?_
  rw [callN_succ (F := F_with_promise) rfl rfl]
  show endF (execSs TT (callN TT n) F_with_promise_0 [some (.t (houseT ds w door s)), some (I k), some (I p)] []) = _
  unfold F_with_promise_0
  have hd : evalE TT (callN TT n) (.att (.var 0) "days") [some (.t (houseT ds w door s)), some (I k), some (I p)] [] = .ok (.t (dsT ds)) [] := e_att (ve 0 rfl) h_days
  have hone : evalE TT (callN TT n) (.tup (.cons (.var 2) (.star (.cut (.sub (.att (.var 0) "days") (.var 1)) (.som (.lit (.int 1))) .non) .nil))) [some (.t (houseT ds w door s)), some (I k), some (I p)] [] = .ok (.t (Day.t { ds[k] with p := p })) [] :=
    e_tup (xs := [.int p, .int (ds[k]).m, .int (ds[k]).r, .int (ds[k]).g]) (es_cons0 (ve 2 rfl) (es_star (e_day_tail (e_sub hd (ve 1 rfl) (ds_at hk))) rfl es_nil0)) (by simp)
  rw [s_ret (e_tup (xs := (setP ds k p).map Day.t) (st' := []) ?_ ?_)]
  · rfl
  · rw [es_star (e_days_to hd (ve 1 rfl)) it_ds (es_cons0 hone (es_star (e_days_from (k := k + 1) hd (e_bin (ve 1 rfl) (b := .lit (.int 1)) (y := I 1) (st'' := []) rfl bin_add)) it_ds es_nil0)), setP_at hk]
    simp
  · rw [List.length_map, len_setP hk]
    omega
end
end K12
end

section
set_option Elab.async false
set_option linter.all false
set_option maxRecDepth 100000
set_option maxHeartbeats 4000000
namespace K12
open PySem Ice Pl Nd
def firstT (n : Nat) (p : Nat → Bool) (out : Nat → Int) : T := (((List.range n).find? p).map fun i => T.int (out i)).getD .non
theorem firstT_D {n : Nat} {p : Nat → Bool} {out : Nat → Int} : (firstD n p fun i => I (out i)).getD (.t .non) = .t (firstT n p out) := by
  unfold firstD firstT
  cases (List.range n).find? p <;> rfl
theorem body_if {P : Tab} {cf : CallF} {ρ : Ice.Env} {st : Store} {c : Ex} {k : Bool} {j : Nat} {d : D} (hc : evalE P cf c ρ st = .ok (B k) st) (hj : ρ[j]? = some (some d)) : execSs P cf (.cons (.if_ c (.cons (.ret (.var j)) .nil) .nil) .nil) ρ st = if k then .rt d st else .nx ρ st := by
  cases k with
  | true => rw [s_if_rt hc (s_ret (ve j hj))]; rfl
  | false => rw [s_cons (x_if0 hc)]; rfl
section
variable {n : Nat} {st : Store} {x : T} {ds : List Day} {door w s ice : Int}
theorem inB_int {i a b : Int} : inB (.int i) a b = (decide (a ≤ i) && decide (i ≤ b)) := rfl
def K2 (a b : D) (m : Nat) (ρ : Ice.Env) : Prop := ρ[0]? = some (some a) ∧ ρ[1]? = some (some b) ∧ ρ.length = m
theorem K2.set {a b : D} {m i : Nat} {ρ : Ice.Env} {v : Option D} (h : K2 a b m ρ) (hi : 2 ≤ i) : K2 a b m (ρ.set i v) :=
  ⟨by rw [List.getElem?_set_ne (by omega)]; exact h.1, by rw [List.getElem?_set_ne (by omega)]; exact h.2.1, by rw [List.length_set]; exact h.2.2⟩
theorem s_least_straw (hd : DaysOk ds) (hn : NumOk w door s) (hi : 0 ≤ ice ∧ ice ≤ 100000) : callD TT (callN TT (n + 41)) "least_straw" [.t (houseT ds w door s), I ice] st = .ok (.t (firstT 9 (fun i => decide (N door ds (i : Int) w ≤ ice)) fun i => (i : Int))) st := by
  refine call_tree (F := F_least_straw) (st' := []) rfl rfl (by simp) ?_
  rw [callN_succ (F := F_least_straw) rfl rfl]
  show endF (execSs TT (callN TT (n + 40)) F_least_straw_0 [some (.t (houseT ds w door s)), some (I ice), none] []) = _
  unfold F_least_straw_0
  rw [s_cons (x_ex (by rw [e_call1 (ve 1 rfl)]; exact s_check_ice (.inl ⟨_, rfl⟩) (by simp [inB, hi.1, hi.2])))]
  unfold F_least_straw_1
  rw [find_ret (K2 (.t (houseT ds w door s)) (I ice) 3) (fun i => decide (N door ds (i : Int) w ≤ ice)) (fun i => I (i : Int)) (it := .rng 0 1 9) (n := 9) (v := fun i => I (0 + (i : Int) * 1)) (dflt := .t .non) rfl (fun i => getI_rng) rfl ⟨rfl, rfl, rfl⟩ (fun i hi ρ hk => ?_) (fun ρ hk => ?_), firstT_D]
  · rfl
  · obtain ⟨h0, h1, hl⟩ := hk.set (i := 2) (v := some (I (i : Int))) (by omega)
    refine ⟨ρ.set 2 (some (I (i : Int))), by simp [bindT, hk.2.2], _, ⟨h0, h1, hl⟩, ?_⟩
    have h2 : (ρ.set 2 (some (I (i : Int))))[2]? = some (some (I (i : Int))) := List.getElem?_set_self (by rw [hk.2.2]; decide)
    unfold F_least_straw_1a_0 F_least_straw_1a_0a_0
    have hn' : NumOk w door (i : Int) := ⟨hn.1, hn.2.1, by omega, by omega⟩
    refine body_if ?_ h2
    rw [e_call2 (x := .t (houseT ds w door (i : Int))) (st' := []) (by rw [e_new (es_cons0 (e_att (ve 0 h0) h_days) (es_cons0 (e_att (ve 0 h0) h_warmth) (es_cons0 (e_att (ve 0 h0) h_door) (es_cons0 (ve 2 h2) es_nil0))))]; exact s_house hd hn') (ve 1 h1)]
    exact s_is_sure (hok hd hn')
  · unfold F_least_straw_2
    exact s_ret rfl
theorem s_most_warmth (hd : DaysOk ds) (hn : NumOk w door s) (hi : 0 ≤ ice ∧ ice ≤ 100000) : callD TT (callN TT (n + 41)) "most_warmth" [.t (houseT ds w door s), I ice] st = .ok (.t (firstT 13 (fun i => decide (N door ds s (12 - (i : Int)) ≤ ice)) fun i => 12 - (i : Int))) st := by
  refine call_tree (F := F_most_warmth) (st' := []) rfl rfl (by simp) ?_
  rw [callN_succ (F := F_most_warmth) rfl rfl]
  show endF (execSs TT (callN TT (n + 40)) F_most_warmth_0 [some (.t (houseT ds w door s)), some (I ice), none] []) = _
  unfold F_most_warmth_0
  rw [s_cons (x_ex (by rw [e_call1 (ve 1 rfl)]; exact s_check_ice (.inl ⟨_, rfl⟩) (by simp [inB, hi.1, hi.2])))]
  unfold F_most_warmth_1
  rw [find_ret (K2 (.t (houseT ds w door s)) (I ice) 3) (fun i => decide (N door ds s (12 - (i : Int)) ≤ ice)) (fun i => I (12 - (i : Int))) (it := .rng 12 (-1) 13) (n := 13) (v := fun i => I (12 + (i : Int) * (-1))) (dflt := .t .non) rfl (fun i => getI_rng) rfl ⟨rfl, rfl, rfl⟩ (fun i hi ρ hk => ?_) (fun ρ hk => ?_), firstT_D]
  · rfl
  · obtain ⟨h0, h1, hl⟩ := hk.set (i := 2) (v := some (I (12 - (i : Int)))) (by omega)
    refine ⟨ρ.set 2 (some (I (12 - (i : Int)))), by rw [show (12 : Int) + (i : Int) * (-1) = 12 - i from by omega]; simp [bindT, hk.2.2], _, ⟨h0, h1, hl⟩, ?_⟩
    have h2 : (ρ.set 2 (some (I (12 - (i : Int)))))[2]? = some (some (I (12 - (i : Int)))) := List.getElem?_set_self (by rw [hk.2.2]; decide)
    unfold F_most_warmth_1a_0 F_most_warmth_1a_0a_0
    have hn' : NumOk (12 - (i : Int)) door s := ⟨by omega, hn.2⟩
    refine body_if ?_ h2
    rw [e_call2 (x := .t (houseT ds (12 - (i : Int)) door s)) (st' := []) (by rw [e_new (es_cons0 (e_att (ve 0 h0) h_days) (es_cons0 (ve 2 h2) (es_cons0 (e_att (ve 0 h0) h_door) (es_cons0 (e_att (ve 0 h0) h_straw) es_nil0))))]; exact s_house hd hn') (ve 1 h1)]
    exact s_is_sure (hok hd hn')
  · unfold F_most_warmth_2
    exact s_ret rfl
theorem s_most_promise {k : Nat} (hk : k < ds.length) (hd : DaysOk ds) (hn : NumOk w door s) (hi : 0 ≤ ice ∧ ice ≤ 100000) : callD TT (callN TT (n + 41)) "most_promise" [.t (houseT ds w door s), I ice, I (k : Int)] st = .ok (.t (firstT 51 (fun i => decide (N door (setP ds k (50 - (i : Int))) s w ≤ ice)) fun i => 50 - (i : Int))) st := by
  refine call_tree (F := F_most_promise) (st' := []) rfl rfl (by simp) ?_
  rw [callN_succ (F := F_most_promise) rfl rfl]
  show endF (execSs TT (callN TT (n + 40)) F_most_promise_0 [some (.t (houseT ds w door s)), some (I ice), some (I k), none] []) = _
  unfold F_most_promise_0
  rw [s_cons (x_ex (by rw [e_call1 (ve 1 rfl)]; exact s_check_ice (.inl ⟨_, rfl⟩) (by simp [inB, hi.1, hi.2])))]
  unfold F_most_promise_1
  rw [s_cons (x_ex (by rw [e_call2 (ve 0 rfl) (ve 2 rfl)]; exact s_check_day (.inl ⟨_, rfl⟩) (by rw [inB_int, decide_eq_true (by omega), decide_eq_true (by omega)]; rfl)))]
  unfold F_most_promise_2
  rw [find_ret (fun ρ => K2 (.t (houseT ds w door s)) (I ice) 4 ρ ∧ ρ[2]? = some (some (I (k : Int)))) (fun i => decide (N door (setP ds k (50 - (i : Int))) s w ≤ ice)) (fun i => I (50 - (i : Int))) (it := .rng 50 (-1) 51) (n := 51) (v := fun i => I (50 + (i : Int) * (-1))) (dflt := .t .non) rfl (fun i => getI_rng) rfl ⟨⟨rfl, rfl, rfl⟩, rfl⟩ (fun i hi ρ hk' => ?_) (fun ρ hk' => ?_), firstT_D]
  · rfl
  · obtain ⟨h0, h1, hl⟩ := hk'.1.set (i := 3) (v := some (I (50 - (i : Int)))) (by omega)
    have h2 : (ρ.set 3 (some (I (50 - (i : Int)))))[2]? = some (some (I (k : Int))) := by rw [List.getElem?_set_ne (by omega)]; exact hk'.2
    refine ⟨ρ.set 3 (some (I (50 - (i : Int)))), by rw [show (50 : Int) + (i : Int) * (-1) = 50 - i from by omega]; simp [bindT, hk'.1.2.2], _, ⟨⟨h0, h1, hl⟩, h2⟩, ?_⟩
    have h3 : (ρ.set 3 (some (I (50 - (i : Int)))))[3]? = some (some (I (50 - (i : Int)))) := List.getElem?_set_self (by rw [hk'.1.2.2]; decide)
    unfold F_most_promise_2a_0 F_most_promise_2a_0a_0
    have hp : DaysOk (setP ds k (50 - (i : Int))) := ok_setP hd hk (by omega) (by omega)
    refine body_if (e_cmp (x := I (N door (setP ds k (50 - (i : Int))) s w)) (st' := []) ?_ (ve 1 h1) cmp_le) h3
    rw [e_call2 (ve 0 h0) (y := .t (dsT (setP ds k (50 - (i : Int))))) (st'' := []) (by rw [e_call3 (ve 0 h0) (ve 2 h2) (ve 3 h3)]; exact s_with_promise hk (by have := hd.1.2; omega))]
    exact s_need_of_days (n := n + 2) (hok hp hn)
  · unfold F_most_promise_3
    exact s_ret rfl
theorem e_cutP {cf : CallF} {ρ : Ice.Env} {j m : Nat} {k : Nat} {a : Ex} (hl : ds.length ≤ 12) (ha : evalE TT cf a ρ st = .ok (.t (dsT ds)) st) (hb : ∀ d : Day, evalE TT cf (.var j) ((wipeE ρ [j]).set j (some (.t d.t))) st = .ok (.t d.t) st) (hlen : j < ρ.length) (hm : ρ[m]? = some (some (I (k : Int)))) :
    evalE TT cf (.fr (.comp (.tup (.cons (.lit (.int 0)) (.star (.cut (.var j) (.som (.lit (.int 1))) .non) .nil))) (.nm j) (.it (.cut a (.som (.var m)) .non)) .non [j])) ρ st = .ok (.t (.lst (((ds.drop k).map fun d => { d with p := 0 }).map Day.t))) st := by
  refine e_fr ?_
  have hi : evalI TT cf (.it (.cut a (.som (.var m)) .non)) ρ st = .ok (.xs (((ds.drop k).map Day.t).map D.t)) st := by
    rw [evalI, e_days_from ha (ve m hm)]
    rfl
  rw [evalL, hi, R.bind_ok, comp_m (ds.drop k) (fun d => .t d.t) (fun d => .t (Day.t { d with p := 0 })) (by rw [List.map_map]; rfl)]
  · rw [List.map_map, List.map_map]
    rfl
  · intro d _
    have hw : j < (wipeE ρ [j]).length := by simpa [wipeE] using hlen
    have hbt : bindT (.nm j) (.t d.t) (wipeE ρ [j]) = some ((wipeE ρ [j]).set j (some (.t d.t))) := by
      unfold bindT
      rw [if_pos hw]
    rw [hbt, ofOpt_some, R.bind_ok]
    simp only [condO, R.bind_ok]
    rw [e_tup (xs := [.int 0, .int d.m, .int d.r, .int d.g]) (es_cons0 (x := I 0) (st' := st) rfl (es_star (e_day_tail (hb d)) rfl es_nil0)) (by simp)]
    rfl
  · rw [List.length_drop]
    omega
theorem s_last_kept (hd : DaysOk ds) (hn : NumOk w door s) (hi : 0 ≤ ice ∧ ice ≤ 100000) : callD TT (callN TT (n + 41)) "last_kept" [.t (houseT ds w door s), I ice] st = .ok ((firstD ds.length (fun i => decide (N door (cutP ds (ds.length - i)) s w ≤ ice)) fun i => I (ds.length - (i : Int))).getD (I 0)) st := by
  have key : callN TT (n + 41) "last_kept" [.t (houseT ds w door s), I ice] [] = .ok ((firstD ds.length (fun i => decide (N door (cutP ds (ds.length - i)) s w ≤ ice)) fun i => I (ds.length - (i : Int))).getD (I 0)) [] := by
    rw [callN_succ (F := F_last_kept) rfl rfl]
    show endF (execSs TT (callN TT (n + 40)) F_last_kept_0 [some (.t (houseT ds w door s)), some (I ice), none, none, none] []) = _
    unfold F_last_kept_0
    rw [s_cons (x_ex (by rw [e_call1 (ve 1 rfl)]; exact s_check_ice (.inl ⟨_, rfl⟩) (by simp [inB, hi.1, hi.2])))]
    unfold F_last_kept_1
    have hl12 := hd.1.2
    have hr : evalI TT (callN TT (n + 40)) (.range (.cons (.bi .len (.cons (.att (.var 0) "days") .nil)) (.cons (.lit (.int 0)) (.cons (.neg (.lit (.int 1))) .nil)))) [some (.t (houseT ds w door s)), some (I ice), none, none, none] [] = .ok (.rng ds.length (-1) ds.length) [] := by
      rw [evalI, es_cons0 (ev_hlen rfl) (es_cons0 (a := .lit (.int 0)) (x := I 0) (st' := []) rfl (es_cons0 (e_neg (a := .lit (.int 1)) (i := 1) rfl) es_nil0)), R.bind_ok]
      unfold rangeI
      simp only
      rw [if_pos (⟨trivial, ⟨by omega, by omega⟩, by decide, by decide⟩ : True ∧ (-1000000000 ≤ (ds.length : Int) ∧ (ds.length : Int) ≤ 1000000000) ∧ -1000000000 ≤ (0 : Int) ∧ (0 : Int) ≤ 1000000000)]
      simp
    rw [find_ret (K2 (.t (houseT ds w door s)) (I ice) 5) (fun i => decide (N door (cutP ds (ds.length - i)) s w ≤ ice)) (fun i => I (ds.length - (i : Int))) (it := .rng ds.length (-1) ds.length) (n := ds.length) (v := fun i => I ((ds.length : Int) + (i : Int) * (-1))) (dflt := I 0) hr (fun i => getI_rng) rfl ⟨rfl, rfl, rfl⟩ (fun i hi ρ hk => ?_) (fun ρ hk => ?_)]
    · rfl
    · have hii : ((ds.length : Int) + (i : Int) * (-1)) = ((ds.length - i : Nat) : Int) := by omega
      have hii2 : ((ds.length : Int) - (i : Int)) = ((ds.length - i : Nat) : Int) := by omega
      rw [hii, hii2]
      obtain ⟨h0, h1, hl⟩ := hk.set (i := 2) (v := some (I ((ds.length - i : Nat) : Int))) (by omega)
      have h2 : (ρ.set 2 (some (I ((ds.length - i : Nat) : Int))))[2]? = some (some (I ((ds.length - i : Nat) : Int))) := List.getElem?_set_self (by rw [hk.2.2]; decide)
      have hbt : bindT (.nm 2) (I ((ds.length - i : Nat) : Int)) ρ = some (ρ.set 2 (some (I ((ds.length - i : Nat) : Int)))) := by
        unfold bindT
        rw [if_pos (by rw [hk.2.2]; decide)]
      generalize ρ.set 2 (some (I ((ds.length - i : Nat) : Int))) = ρ' at hbt h0 h1 hl h2
      have hcut := e_days_to (st := []) (cf := callN TT (n + 40)) (ρ := ρ') (e_att (ve 0 h0) h_days) (ve 2 h2)
      have hcp := e_cutP (st := []) (cf := callN TT (n + 40)) (ρ := ρ') (j := 4) (m := 2) hl12 (e_att (ve 0 h0) h_days) (fun d => ve 4 (List.getElem?_set_self (by simp [wipeE, hl]))) (by omega) h2
      have hasg := x_asg (i := 3) (st := []) (e_tup (st := []) (st' := []) (xs := (cutP ds (ds.length - i)).map Day.t) (by rw [es_star hcut it_ds (es_star hcp items_lst es_nil0)]; unfold cutP; simp) (by rw [List.length_map, len_cutP]; omega)) (by omega : 3 < ρ'.length)
      change execS _ _ _ _ _ = .nx (ρ'.set 3 (some (.t (dsT (cutP ds (ds.length - i)))))) [] at hasg
      have hK : K2 (.t (houseT ds w door s)) (I ice) 5 ρ' := ⟨h0, h1, hl⟩
      refine ⟨ρ', hbt, ρ'.set 3 (some (.t (dsT (cutP ds (ds.length - i))))), hK.set (by omega), ?_⟩
      unfold F_last_kept_1a_0
      rw [s_cons hasg]
      unfold F_last_kept_1a_1 F_last_kept_1a_1a_0
      obtain ⟨g0, g1, gl⟩ := hK.set (i := 3) (v := some (.t (dsT (cutP ds (ds.length - i))))) (by omega)
      refine body_if (e_cmp (x := I (N door (cutP ds (ds.length - i)) s w)) (st' := []) ?_ (ve 1 g1) cmp_le) (by rw [List.getElem?_set_ne (by omega)]; exact h2)
      rw [e_call2 (ve 0 g0) (ve 3 (List.getElem?_set_self (by omega)))]
      exact s_need_of_days (n := n + 2) (hok (ok_cutP hd) hn)
    · unfold F_last_kept_2
      exact s_ret rfl
  have ht : ∃ x, (firstD ds.length (fun i => decide (N door (cutP ds (ds.length - i)) s w ≤ ice)) fun i => I (ds.length - (i : Int))).getD (I 0) = .t x := by
    unfold firstD
    cases (List.range ds.length).find? _ <;> exact ⟨_, rfl⟩
  obtain ⟨x, hx⟩ := ht
  rw [hx] at key ⊢
  exact call_tree (F := F_last_kept) rfl rfl (by simp) key
end
end K12
end

section
set_option Elab.async false
set_option linter.all false
set_option maxRecDepth 100000
set_option maxHeartbeats 4000000
namespace K12
open PySem Ice Pl Nd
section
variable {n : Nat} {st : Store} {x : T} {ds : List Day} {door w s ice : Int}
/-- _law_first over a list of (number, told) -/
theorem s_law_first {m : Nat} {f : Nat → Int} {g : Nat → List Day × Int × Int × Int} (hm : m ≤ 1000) (hg : ∀ i, i < m → HOk (g i).1 (g i).2.1 (g i).2.2.1 (g i).2.2.2) :
    callD TT (callN TT (n + 40)) "_law_first" [.t (.lst ((List.range m).map fun i => T.tup [.int (f i), toldT (g i).1 (g i).2.1 (g i).2.2.1 (g i).2.2.2])), I ice] st = .ok (.t (firstT m (fun i => decide (N (g i).2.2.1 (g i).1 (g i).2.2.2 (g i).2.1 ≤ ice)) f)) st := by
  refine call_tree (F := F__law_first) (st' := []) rfl rfl (by simp) ?_
  rw [callN_succ (F := F__law_first) rfl rfl]
  generalize hL : T.lst ((List.range m).map fun i => T.tup [.int (f i), toldT (g i).1 (g i).2.1 (g i).2.2.1 (g i).2.2.2]) = L
  show endF (execSs TT (callN TT (n + 39)) F__law_first_0 [some (.t L), some (I ice), none, none] []) = _
  unfold F__law_first_0
  have hi : evalI TT (callN TT (n + 39)) (.it (.var 0)) [some (.t L), some (I ice), none, none] [] = .ok (.xs ((List.range m).map fun i => D.t (T.tup [.int (f i), toldT (g i).1 (g i).2.1 (g i).2.2.1 (g i).2.2.2]))) [] := by
    rw [evalI, ve 0 rfl, R.bind_ok, ← hL]
    show R.ok (It.xs (((List.range m).map fun i => T.tup [.int (f i), toldT (g i).1 (g i).2.1 (g i).2.2.1 (g i).2.2.2]).map D.t)) [] = _
    rw [List.map_map]
    rfl
  rw [find_ret (K2 (.t L) (I ice) 4) (fun i => decide (N (g i).2.2.1 (g i).1 (g i).2.2.2 (g i).2.1 ≤ ice)) (fun i => I (f i)) (n := m) (v := fun i => D.t (T.tup [.int (f i), toldT (g i).1 (g i).2.1 (g i).2.2.1 (g i).2.2.2])) (dflt := .t .non) hi (fun i => ?_) (by simp [lenI]) ⟨rfl, rfl, rfl⟩ (fun i hi ρ hk => ?_) (fun ρ hk => ?_), firstT_D]
  · rfl
  · show some ((List.range m).map fun i => D.t (T.tup [.int (f i), toldT (g i).1 (g i).2.1 (g i).2.2.1 (g i).2.2.2]))[i]? = _
    by_cases h : i < m
    · rw [if_pos h]
      simp [h]
    · rw [if_neg h]
      simp [h]
  · obtain ⟨h0, h1, hl⟩ := (hk.set (i := 2) (v := some (I (f i))) (by omega)).set (i := 3) (v := some (.t (toldT (g i).1 (g i).2.1 (g i).2.2.1 (g i).2.2.2))) (by omega)
    refine ⟨(ρ.set 2 (some (I (f i)))).set 3 (some (.t (toldT (g i).1 (g i).2.1 (g i).2.2.1 (g i).2.2.2))), by simp [bindT, bindTs, hk.2.2], _, ⟨h0, h1, hl⟩, ?_⟩
    unfold F__law_first_0a_0 F__law_first_0a_0a_0
    have hl3 : ρ.length = 4 := hk.2.2
    refine body_if (e_cmp (x := I (N (g i).2.2.1 (g i).1 (g i).2.2.2 (g i).2.1)) (st' := []) ?_ (ve 1 h1) cmp_le) ?_
    · rw [e_call1 (ve 3 (List.getElem?_set_self (by simp [hl3])))]
      exact s_law_whole (hg i hi)
    · rw [List.getElem?_set_ne (by omega), List.getElem?_set_self (by omega)]
  · unfold F__law_first_1
    exact s_ret rfl
theorem fits_add {a b : Nat} (h : a + b ≤ 1000000) : fits (a + b) = true := decide_eq_true h
theorem bin_tup {xs ys : List T} (h : xs.length + ys.length ≤ 1000000) : binD st .add (.t (.tup xs)) (.t (.tup ys)) = some (.tup (xs ++ ys)) := by
  show (if fits (xs.length + ys.length) then some (T.tup (xs ++ ys)) else none) = _
  rw [fits_add h]
  rfl
section
variable {cf : CallF} {ρ : Ice.Env} {a b : Ex} {xs ys : List T}
theorem e_cat (ha : evalE TT cf a ρ st = .ok (.t (.tup xs)) st) (hb : evalE TT cf b ρ st = .ok (.t (.tup ys)) st) (h : xs.length + ys.length ≤ 1000000) : evalE TT cf (.bin .add a b) ρ st = .ok (.t (.tup (xs ++ ys))) st := e_bin ha hb (bin_tup h)
theorem e_tup1 {t : T} (ha : evalE TT cf a ρ st = .ok (.t t) st) : evalE TT cf (.tup (.cons a .nil)) ρ st = .ok (.t (.tup [t])) st := e_tup (xs := [t]) (es_cons0 ha es_nil0) (by simp)
theorem e_told_to {j : Int} (k : Nat) (hj : j = k) {i : Nat} (h : ρ[i]? = some (some (.t (toldT ds w door s)))) : evalE TT cf (.cut (.var i) .non (.som (.lit (.int j)))) ρ st = .ok (.t (.tup ([dsT ds, .int w, .int door, .int s].take k))) st := by
  subst hj
  rw [e_cut (ve i h) o_non (o_som (i := (k : Int)) rfl), cut_to]
theorem e_told_from {j : Int} (k : Nat) (hj : j = k) {i : Nat} (h : ρ[i]? = some (some (.t (toldT ds w door s)))) : evalE TT cf (.cut (.var i) (.som (.lit (.int j))) .non) ρ st = .ok (.t (.tup ([dsT ds, .int w, .int door, .int s].drop k))) st := by
  subst hj
  rw [e_cut (ve i h) (o_som (i := (k : Int)) rfl) o_non, cut_from]
end
theorem s_law_with_promise {k : Nat} {p : Int} (hk : k < ds.length) (hl : ds.length ≤ 12) : callD TT (callN TT (n + 1)) "_law_with_promise" [.t (toldT ds w door s), I (k : Int), I p] st = .ok (.t (toldT (setP ds k p) w door s)) st := by
  refine call_tree (F := F__law_with_promise) (st' := []) rfl rfl (by simp) ?_
  rw [callN_succ (F := F__law_with_promise) rfl rfl]
  show endF (execSs TT (callN TT n) F__law_with_promise_0 [some (.t (toldT ds w door s)), some (I k), some (I p), none] []) = _
  unfold F__law_with_promise_0
  rw [s_cons (x_asg (ev_ds rfl) (by simp))]
  show endF (execSs TT (callN TT n) F__law_with_promise_1 [some (.t (toldT ds w door s)), some (I k), some (I p), some (.t (dsT ds))] []) = _
  unfold F__law_with_promise_1
  have hd : evalE TT (callN TT n) (.var 3) [some (.t (toldT ds w door s)), some (I k), some (I p), some (.t (dsT ds))] [] = .ok (.t (dsT ds)) [] := ve 3 rfl
  have hone : evalE TT (callN TT n) (.bin .add (.tup (.cons (.var 2) .nil)) (.cut (.sub (.var 3) (.var 1)) (.som (.lit (.int 1))) .non)) [some (.t (toldT ds w door s)), some (I k), some (I p), some (.t (dsT ds))] [] = .ok (.t (Day.t { ds[k] with p := p })) [] :=
    e_cat (xs := [.int p]) (ys := [.int (ds[k]).m, .int (ds[k]).r, .int (ds[k]).g]) (e_tup1 (ve 2 rfl)) (e_day_tail (e_sub hd (ve 1 rfl) (ds_at hk))) (by simp)
  have hall : evalE TT (callN TT n) (.bin .add (.bin .add (.cut (.var 3) .non (.som (.var 1))) (.tup (.cons (.bin .add (.tup (.cons (.var 2) .nil)) (.cut (.sub (.var 3) (.var 1)) (.som (.lit (.int 1))) .non)) .nil))) (.cut (.var 3) (.som (.bin .add (.var 1) (.lit (.int 1)))) .non)) [some (.t (toldT ds w door s)), some (I k), some (I p), some (.t (dsT ds))] [] = .ok (.t (dsT (setP ds k p))) [] := by
    have := e_cat (e_cat (e_days_to hd (ve 1 rfl)) (e_tup1 hone) (by simp; omega)) (e_days_from (k := k + 1) hd (e_bin (ve 1 rfl) (b := .lit (.int 1)) (y := I 1) (st'' := []) rfl bin_add)) (by simp; omega)
    rw [this, setP_at hk]
    unfold dsT
    simp
  rw [s_ret (e_cat (e_tup1 hall) (e_told_from (j := 1) (i := 0) 1 rfl rfl) (by simp))]
  rfl
theorem al_non {n : Nat} : Al (n + 1) .non := by
  intro st
  refine call_tree (F := F__law_alike) (st' := []) rfl rfl (by simp) ?_
  rw [callN_succ (F := F__law_alike) rfl rfl]
  rfl
theorem al_first {n m : Nat} {p : Nat → Bool} {out : Nat → Int} : Al (n + 1) (firstT m p out) := by
  unfold firstT
  cases (List.range m).find? p with
  | none => exact al_non
  | some i => exact al_int
end
end K12
end

section
set_option Elab.async false
set_option linter.all false
set_option maxRecDepth 100000
set_option maxHeartbeats 4000000
namespace K12
open PySem Ice Pl Nd
theorem set_ne {α : Type} {l : List α} {i j : Nat} {v : α} (h : i ≠ j) : (l.set i v)[j]? = l[j]? := List.getElem?_set_ne h
theorem set_get {α : Type} {l : List α} {i : Nat} {v : α} (h : i < l.length) : (l.set i v)[i]? = some v := List.getElem?_set_self h
/-- what the law keeps -/
structure LE (ds : List Day) (w door s ice : Int) (k : Nat) (ρ : Ice.Env) : Prop where
  hd : DaysOk ds
  d5 : ds.length ≤ 5
  hn : NumOk w door s
  hi : 0 ≤ ice ∧ ice ≤ 100000
  hk : k < ds.length
  h1 : ρ[1]? = some (some (.h 0))
  h2 : ρ[2]? = some (some (.t (toldT ds w door s)))
  h3 : ρ[3]? = some (some (.t (houseT ds w door s)))
  h4 : ρ[4]? = some (some (I (N door ds s w)))
  h5 : ρ[5]? = some (some (I ice))
  h6 : ρ[6]? = some (some (I (k : Int)))
  hl : ρ.length = 19
section
variable {ds : List Day} {w door s ice : Int} {k : Nat} {ρ : Ice.Env} {o : O} {st : Store}
theorem LE.put (H : LE ds w door s ice k ρ) {i : Nat} (hi : 7 ≤ i) {v : Option D} : LE ds w door s ice k (ρ.set i v) :=
  ⟨H.hd, H.d5, H.hn, H.hi, H.hk, (set_ne (by omega)).trans H.h1, (set_ne (by omega)).trans H.h2, (set_ne (by omega)).trans H.h3, (set_ne (by omega)).trans H.h4, (set_ne (by omega)).trans H.h5, (set_ne (by omega)).trans H.h6, by rw [List.length_set]; exact H.hl⟩
abbrev c45 : CallF := callN TT 45
def Fz (F : Sms) (ρ : Ice.Env) (st : Store) : Prop := En (execSs TT c45 F ρ st) (fun _ _ => False) (fun d _ => d = B true)
theorem x_alike {a b : Ex} {p : Sms} {x : T} (ha : evalE TT c45 a ρ st = .ok (.t x) st) (hb : evalE TT c45 b ρ st = .ok (.t x) st) (hal : Al 45 x) : execS TT c45 (.if_ (.nt (.call "_law_alike" (.cons a (.cons b .nil)))) p .nil) ρ st = .nx ρ st := by
  refine x_if0 (e_nt (k := true) ?_)
  rw [e_call2 ha hb]
  exact hal st
theorem comp_rd {n : Nat} {lo : Int} {b : D → Store → R (Option D)} {st st' : Store} (g : Nat → D) (hb : ∀ i, i < n → b (.t (.int (lo - (i : Int)))) st = .ok (some (g i)) st) (hl : n ≤ 1000000) :
    compL (.rng lo (-1) n) b (lenI st' (.rng lo (-1) n)) 0 [] st = .ok ((List.range n).map g) st := by
  show compL (.rng lo (-1) n) b n 0 [] st = _
  rw [compL_rng]
  have := comp_m (b := b) (st := st) (st' := st') (List.range n) (fun i : Nat => D.t (.int (lo + (i : Int) * (-1)))) g rfl (fun i hi => by
    rw [show lo + (i : Int) * (-1) = lo - i from by omega]
    exact hb i (List.mem_range.mp hi)) (by simpa using hl)
  rw [show lenI st' (.xs ((List.range n).map fun (i : Nat) => D.t (.int (lo + (i : Int) * (-1))))) = n from by simp [lenI]] at this
  exact this
theorem f_alike {a b : Ex} {r : Sms} {x : T} (ha : evalE TT c45 a ρ st = .ok (.t x) st) (hb : evalE TT c45 b ρ st = .ok (.t x) st) (hal : Al 45 x) {p : Sms} (h : Fz r ρ st) : Fz (.cons (.if_ (.nt (.call "_law_alike" (.cons a (.cons b .nil)))) p .nil) r) ρ st := by
  unfold Fz
  rw [s_cons (x_alike ha hb hal)]
  exact h
/-! ### the lists of houses tried -/
theorem e_try_straw (H : LE ds w door s ice k ρ) : evalE TT c45 (.fr (.comp (.tup (.cons (.var 16) (.cons (.bin .add (.cut (.var 2) .non (.som (.lit (.int 3)))) (.tup (.cons (.var 16) .nil))) .nil))) (.nm 16) (.range (.cons (.lit (.int 9)) .nil)) .non [16])) ρ st = .ok (.t (.lst ((List.range 9).map fun i => T.tup [.int ((i : Nat) : Int), toldT ds w door (i : Int)]))) st := by
  refine e_fr ?_
  have hr : evalI TT c45 (.range (.cons (.lit (.int 9)) .nil)) ρ st = .ok (.rng 0 1 9) st := rfl
  rw [evalL, hr, R.bind_ok, comp_ra (fun i => .t (T.tup [.int ((i : Nat) : Int), toldT ds w door (i : Int)]))]
  · rw [List.map_map]; rfl
  · intro i hi
    have hb : bindT (.nm 16) (I (i : Int)) (wipeE ρ [16]) = some ((ρ.set 16 none).set 16 (some (I (i : Int)))) := by
      show bindT (.nm 16) (I (i : Int)) (ρ.set 16 none) = _
      unfold bindT
      rw [if_pos (by rw [List.length_set, H.hl]; decide)]
    rw [hb, ofOpt_some, R.bind_ok]
    simp only [condO, R.bind_ok]
    have H2 := (H.put (i := 16) (by omega) (v := none)).put (i := 16) (by omega) (v := some (I (i : Int)))
    have h16 : ((ρ.set 16 none).set 16 (some (I (i : Int))))[16]? = some (some (I (i : Int))) := set_get (by rw [List.length_set, H.hl]; decide)
    rw [e_tup2 (ve 16 h16) (e_cat (e_told_to (j := 3) (i := 2) 3 rfl H2.h2) (e_tup1 (ve 16 h16)) (by simp))]
    rfl
  · decide
theorem e_try_warmth (H : LE ds w door s ice k ρ) : evalE TT c45 (.fr (.comp (.tup (.cons (.var 17) (.cons (.bin .add (.tup (.cons (.sub (.var 2) (.lit (.int 0))) (.cons (.var 17) .nil))) (.cut (.var 2) (.som (.lit (.int 2))) .non)) .nil))) (.nm 17) (.range (.cons (.lit (.int 12)) (.cons (.neg (.lit (.int 1))) (.cons (.neg (.lit (.int 1))) .nil)))) .non [17])) ρ st = .ok (.t (.lst ((List.range 13).map fun i => T.tup [.int (12 - ((i : Nat) : Int)), toldT ds (12 - (i : Int)) door s]))) st := by
  refine e_fr ?_
  have hr : evalI TT c45 (.range (.cons (.lit (.int 12)) (.cons (.neg (.lit (.int 1))) (.cons (.neg (.lit (.int 1))) .nil)))) ρ st = .ok (.rng 12 (-1) 13) st := rfl
  rw [evalL, hr, R.bind_ok, comp_rd (fun i => .t (T.tup [.int (12 - ((i : Nat) : Int)), toldT ds (12 - (i : Int)) door s]))]
  · rw [List.map_map]; rfl
  · intro i hi
    have hb : bindT (.nm 17) (I (12 - (i : Int))) (wipeE ρ [17]) = some ((ρ.set 17 none).set 17 (some (I (12 - (i : Int))))) := by
      show bindT (.nm 17) (I (12 - (i : Int))) (ρ.set 17 none) = _
      unfold bindT
      rw [if_pos (by rw [List.length_set, H.hl]; decide)]
    rw [hb, ofOpt_some, R.bind_ok]
    simp only [condO, R.bind_ok]
    have H2 := (H.put (i := 17) (by omega) (v := none)).put (i := 17) (by omega) (v := some (I (12 - (i : Int))))
    have h17 : ((ρ.set 17 none).set 17 (some (I (12 - (i : Int)))))[17]? = some (some (I (12 - (i : Int)))) := set_get (by rw [List.length_set, H.hl]; decide)
    rw [e_tup2 (ve 17 h17) (e_cat (e_tup2 (ev_ds H2.h2) (ve 17 h17)) (e_told_from (j := 2) (i := 2) 2 rfl H2.h2) (by simp))]
    rfl
  · decide
theorem e_try_promise (H : LE ds w door s ice k ρ) : evalE TT c45 (.fr (.comp (.tup (.cons (.var 18) (.cons (.call "_law_with_promise" (.cons (.var 2) (.cons (.var 6) (.cons (.var 18) .nil)))) .nil))) (.nm 18) (.range (.cons (.lit (.int 50)) (.cons (.neg (.lit (.int 1))) (.cons (.neg (.lit (.int 1))) .nil)))) .non [18])) ρ st = .ok (.t (.lst ((List.range 51).map fun i => T.tup [.int (50 - ((i : Nat) : Int)), toldT (setP ds k (50 - (i : Int))) w door s]))) st := by
  refine e_fr ?_
  have hr : evalI TT c45 (.range (.cons (.lit (.int 50)) (.cons (.neg (.lit (.int 1))) (.cons (.neg (.lit (.int 1))) .nil)))) ρ st = .ok (.rng 50 (-1) 51) st := rfl
  rw [evalL, hr, R.bind_ok, comp_rd (fun i => .t (T.tup [.int (50 - ((i : Nat) : Int)), toldT (setP ds k (50 - (i : Int))) w door s]))]
  · rw [List.map_map]; rfl
  · intro i hi
    have hb : bindT (.nm 18) (I (50 - (i : Int))) (wipeE ρ [18]) = some ((ρ.set 18 none).set 18 (some (I (50 - (i : Int))))) := by
      show bindT (.nm 18) (I (50 - (i : Int))) (ρ.set 18 none) = _
      unfold bindT
      rw [if_pos (by rw [List.length_set, H.hl]; decide)]
    rw [hb, ofOpt_some, R.bind_ok]
    simp only [condO, R.bind_ok]
    have H2 := (H.put (i := 18) (by omega) (v := none)).put (i := 18) (by omega) (v := some (I (50 - (i : Int))))
    have h18 : ((ρ.set 18 none).set 18 (some (I (50 - (i : Int)))))[18]? = some (some (I (50 - (i : Int)))) := set_get (by rw [List.length_set, H.hl]; decide)
    rw [e_tup2 (ve 18 h18) (t := .int (50 - (i : Int))) (u := toldT (setP ds k (50 - (i : Int))) w door s) (by rw [e_call3 (ve 2 H2.h2) (ve 6 H2.h6) (ve 18 h18)]; exact s_law_with_promise H.hk (by have := H.d5; omega))]
    rfl
  · decide
end
end K12
end

section
set_option Elab.async false
set_option linter.all false
set_option maxRecDepth 100000
set_option maxHeartbeats 4000000
namespace K12
open PySem Ice Pl Nd
def wrongL : List T := [.int (-1), .int 100001, .non, .bl true]
theorem scal_wrong : ∀ x ∈ wrongL, Scal x := by
  intro x hx
  simp only [wrongL, List.mem_cons, List.not_mem_nil, or_false] at hx
  rcases hx with rfl | rfl | rfl | rfl
  · exact .inl ⟨_, rfl⟩
  · exact .inl ⟨_, rfl⟩
  · exact .inr (.inl rfl)
  · exact .inr (.inr ⟨_, rfl⟩)
theorem in_wrong : ∀ x ∈ wrongL, inB x 0 100000 = false := by
  intro x hx
  simp only [wrongL, List.mem_cons, List.not_mem_nil, or_false] at hx
  rcases hx with rfl | rfl | rfl | rfl <;> rfl
theorem rp_wrong : ∀ x ∈ wrongL, rpB (W "ice" x) = true := by
  intro x hx
  simp only [wrongL, List.mem_cons, List.not_mem_nil, or_false] at hx
  rcases hx with rfl | rfl | rfl | rfl <;> decide +kernel
def oddL (m : Nat) : List T := [.int (-1), .int (m : Int), .non, .bl true]
theorem scal_odd {m : Nat} : ∀ x ∈ oddL m, Scal x := by
  intro x hx
  simp only [oddL, List.mem_cons, List.not_mem_nil, or_false] at hx
  rcases hx with rfl | rfl | rfl | rfl
  · exact .inl ⟨_, rfl⟩
  · exact .inl ⟨_, rfl⟩
  · exact .inr (.inl rfl)
  · exact .inr (.inr ⟨_, rfl⟩)
theorem in_odd {m : Nat} : ∀ x ∈ oddL m, inB x 0 ((m : Int) - 1) = false := by
  intro x hx
  simp only [oddL, List.mem_cons, List.not_mem_nil, or_false] at hx
  rcases hx with rfl | rfl | rfl | rfl
  · rw [inB_int, decide_eq_false (by omega)]; rfl
  · rw [inB_int, decide_eq_false (by omega : ¬ (m : Int) ≤ (m : Int) - 1), Bool.and_false]
  · rfl
  · rfl
theorem rp_odd {m : Nat} (hm : m ≤ 5) : ∀ x ∈ oddL m, rpB (W "day" x) = true := by
  intro x hx
  have h : m = 0 ∨ m = 1 ∨ m = 2 ∨ m = 3 ∨ m = 4 ∨ m = 5 := by omega
  simp only [oddL, List.mem_cons, List.not_mem_nil, or_false] at hx
  rcases hx with rfl | rfl | rfl | rfl
  · decide +kernel
  · rcases h with rfl | rfl | rfl | rfl | rfl | rfl <;> decide +kernel
  · decide +kernel
  · decide +kernel
section
variable {cf : CallF} {ρ : Ice.Env} {st : Store} {E : Ex} {x : T}
theorem lam_ice (h : evalE TT cf E ρ st = .ex (exOf "BadIce" x) st) : evalE TT cf (.lam "_law_refused" E) ρ st = .ok (.t (W "ice" x)) st := by unfold evalE; rw [h]; rfl
theorem lam_day (h : evalE TT cf E ρ st = .ex (exOf "BadDay" x) st) : evalE TT cf (.lam "_law_refused" E) ρ st = .ok (.t (W "day" x)) st := by unfold evalE; rw [h]; rfl
theorem e_W {w : String} {A : Ex} (h : evalE TT cf A ρ st = .ok (.t x) st) : evalE TT cf (.tup (.cons (.lit (.str (Str.ofString w))) (.cons A .nil))) ρ st = .ok (.t (W w x)) st := e_tup2 rfl h
theorem e_repr_ne {A C : Ex} (hA : evalE TT cf A ρ st = .ok (.t x) st) (hC : evalE TT cf C ρ st = .ok (.t x) st) (rp : rpB x = true) : evalE TT cf (.cmp .ne (.bi .repr (.cons A .nil)) (.bi .repr (.cons C .nil))) ρ st = .ok (B false) st := by
  obtain ⟨s, hs, hc⟩ := repr_eq rp
  exact e_cmp (ev_repr hA hs) (ev_repr hC hs) (hc st).2
theorem e_repr_eq {A C : Ex} (hA : evalE TT cf A ρ st = .ok (.t x) st) (hC : evalE TT cf C ρ st = .ok (.t x) st) (rp : rpB x = true) : evalE TT cf (.cmp .eq (.bi .repr (.cons A .nil)) (.bi .repr (.cons C .nil))) ρ st = .ok (B true) st := by
  obtain ⟨s, hs, hc⟩ := repr_eq rp
  exact e_cmp (ev_repr hA hs) (ev_repr hC hs) (hc st).1
end
section
variable {n : Nat} {st : Store} {x y : T} {ds : List Day} {door w s ice : Int}
theorem x_least_straw (hx : Scal x) (h : inB x 0 100000 = false) : callD TT (callN TT (n + 4)) "least_straw" [.t (houseT ds w door s), .t x] st = .ex (exOf "BadIce" x) st := by
  refine call_ex (F := F_least_straw) (st' := []) rfl rfl (by simp) ?_
  rw [callN_succ (F := F_least_straw) rfl rfl]
  show endF (execSs TT (callN TT (n + 3)) F_least_straw_0 [some (.t (houseT ds w door s)), some (.t x), none] []) = _
  unfold F_least_straw_0
  rw [s_ex_ex (by rw [e_call1 (ve 1 rfl)]; exact x_check_ice hx h)]
  rfl
theorem x_most_warmth (hx : Scal x) (h : inB x 0 100000 = false) : callD TT (callN TT (n + 4)) "most_warmth" [.t (houseT ds w door s), .t x] st = .ex (exOf "BadIce" x) st := by
  refine call_ex (F := F_most_warmth) (st' := []) rfl rfl (by simp) ?_
  rw [callN_succ (F := F_most_warmth) rfl rfl]
  show endF (execSs TT (callN TT (n + 3)) F_most_warmth_0 [some (.t (houseT ds w door s)), some (.t x), none] []) = _
  unfold F_most_warmth_0
  rw [s_ex_ex (by rw [e_call1 (ve 1 rfl)]; exact x_check_ice hx h)]
  rfl
theorem x_last_kept (hx : Scal x) (h : inB x 0 100000 = false) : callD TT (callN TT (n + 4)) "last_kept" [.t (houseT ds w door s), .t x] st = .ex (exOf "BadIce" x) st := by
  refine call_ex (F := F_last_kept) (st' := []) rfl rfl (by simp) ?_
  rw [callN_succ (F := F_last_kept) rfl rfl]
  show endF (execSs TT (callN TT (n + 3)) F_last_kept_0 [some (.t (houseT ds w door s)), some (.t x), none, none, none] []) = _
  unfold F_last_kept_0
  rw [s_ex_ex (by rw [e_call1 (ve 1 rfl)]; exact x_check_ice hx h)]
  rfl
theorem x_most_promise (hx : Scal x) (h : inB x 0 100000 = false) : callD TT (callN TT (n + 4)) "most_promise" [.t (houseT ds w door s), .t x, .t y] st = .ex (exOf "BadIce" x) st := by
  refine call_ex (F := F_most_promise) (st' := []) rfl rfl (by simp) ?_
  rw [callN_succ (F := F_most_promise) rfl rfl]
  show endF (execSs TT (callN TT (n + 3)) F_most_promise_0 [some (.t (houseT ds w door s)), some (.t x), some (.t y), none] []) = _
  unfold F_most_promise_0
  rw [s_ex_ex (by rw [e_call1 (ve 1 rfl)]; exact x_check_ice hx h)]
  rfl
theorem x_most_promise2 (hi : 0 ≤ ice ∧ ice ≤ 100000) (hx : Scal x) (h : inB x 0 ((ds.length : Int) - 1) = false) : callD TT (callN TT (n + 4)) "most_promise" [.t (houseT ds w door s), I ice, .t x] st = .ex (exOf "BadDay" x) st := by
  refine call_ex (F := F_most_promise) (st' := []) rfl rfl (by simp) ?_
  rw [callN_succ (F := F_most_promise) rfl rfl]
  show endF (execSs TT (callN TT (n + 3)) F_most_promise_0 [some (.t (houseT ds w door s)), some (I ice), some (.t x), none] []) = _
  unfold F_most_promise_0
  rw [s_cons (x_ex (by rw [e_call1 (ve 1 rfl)]; exact s_check_ice (.inl ⟨_, rfl⟩) (by simp [inB, hi.1, hi.2])))]
  unfold F_most_promise_1
  rw [s_ex_ex (by rw [e_call2 (ve 0 rfl) (ve 2 rfl)]; exact x_check_day hx h)]
  rfl
end
section
variable {ns : List Int} {ds : List Day} {w door s ice : Int} {k : Nat} {ρ : Ice.Env} {o : O} {st : Store} {x y : T}
theorem f17 (H : LE ds w door s ice k ρ) (hx : x ∈ oddL ds.length) (h13 : ρ[13]? = some (some (.t x))) : Fz F_law_17 ρ st := by
  unfold Fz F_law_17
  rw [s_ret (e_repr_eq (lam_day ((e_call3 (ve 3 H.h3) (ve 5 H.h5) (ve 13 h13)).trans (x_most_promise2 (n := 41) H.hi (scal_odd x hx) (in_odd x hx)))) (e_W (ve 13 h13)) (rp_odd H.d5 x hx))]
  exact rfl
theorem f16 (H : LE ds w door s ice k ρ) (hx : x ∈ oddL ds.length) (h13 : ρ[13]? = some (some (.t x))) (hy : y ∈ wrongL) (h11 : ρ[11]? = some (some (.t y))) : Fz F_law_16 ρ st := by
  unfold Fz F_law_16
  rw [s_cons (x_if0 (e_repr_ne (lam_ice ((e_call3 (ve 3 H.h3) (ve 11 h11) (ve 13 h13)).trans (x_most_promise (n := 41) (scal_wrong y hy) (in_wrong y hy)))) (e_W (ve 11 h11)) (rp_wrong y hy)))]
  exact f17 H hx h13
theorem ev_tlen {cf : CallF} {i : Nat} (h : ρ[i]? = some (some (.t (toldT ds w door s)))) : evalE TT cf (.bi .len (.cons (.sub (.var i) (.lit (.int 0))) .nil)) ρ st = .ok (I ds.length) st := by
  refine e_bi (ev_ds h) ?_
  show (lenD st (.t (dsT ds))) = _
  rw [len_sq sq_ds]
  simp
theorem f15 (H : LE ds w door s ice k ρ) (ho : Row ns o) (hy : y ∈ wrongL) (h11 : ρ[11]? = some (some (.t y))) : Fz F_law_15 ρ [o] := by
  unfold Fz F_law_15
  obtain ⟨x, o', e, hx, ho'⟩ := ev_pk (n := 43) (i := 1) (ρ := ρ) (o := o) (o1 := o) (st := []) (xs := oddL ds.length) H.h1 ho (e_list (es_cons0 (a := .neg (.lit (.int 1))) (x := I (-1)) (st' := [o]) rfl (es_cons0 (ev_tlen H.h2) (es_cons0 (a := .lit .non) (x := .t .non) (st' := [o]) rfl (es_cons0 (a := .lit (.bl true)) (x := B true) (st' := [o]) rfl es_nil0)))) (by simp [oddL])) (by simp [oddL]) (by simp [oddL])
  rw [s_cons (x_asg e (by rw [H.hl]; decide))]
  exact f16 (H.put (by omega)) hx (set_get (by rw [H.hl]; decide)) hy ((set_ne (by omega)).trans h11)
theorem f14 (H : LE ds w door s ice k ρ) (ho : Row ns o) (hy : y ∈ wrongL) (h11 : ρ[11]? = some (some (.t y))) : Fz F_law_14 ρ [o] := by
  unfold Fz F_law_14
  have hi : evalI TT c45 (.it (.fr (.disp (.cons (.glb "least_straw") (.cons (.glb "most_warmth") (.cons (.glb "last_kept") .nil)))))) ρ [o] = .ok (.xs (["least_straw", "most_warmth", "last_kept"].map fun f => D.t (.fn f))) [o] := by
    rw [evalI, e_list (xs := [.fn "least_straw", .fn "most_warmth", .fn "last_kept"]) (es_cons0 (e_glb rfl) (es_cons0 (e_glb rfl) (es_cons0 (e_glb rfl) es_nil0))) (by simp)]
    rfl
  rw [execSs, execS, hi, Fw.of_ok, En_nxt]
  refine En_for_m (st := [o]) ["least_straw", "most_warmth", "last_kept"] (fun f => .t (.fn f)) rfl (fun _ ρ' st' => LE ds w door s ice k ρ' ∧ ρ'[11]? = some (some (.t y)) ∧ st' = [o]) ⟨H, h11, rfl⟩ (fun i hi ρ' st' h => ?_) (fun ρ' st' h => ?_)
  · obtain ⟨H', h11', rfl⟩ := h
    refine ⟨ρ'.set 12 (some (.t (.fn ["least_straw", "most_warmth", "last_kept"][i]))), by unfold bindT; rw [if_pos (by rw [H'.hl]; decide)], ?_⟩
    have H2 := H'.put (i := 12) (by omega) (v := some (.t (.fn ["least_straw", "most_warmth", "last_kept"][i])))
    have g11 : (ρ'.set 12 (some (.t (.fn ["least_straw", "most_warmth", "last_kept"][i]))))[11]? = some (some (.t y)) := (set_ne (by omega)).trans h11'
    have g12 : (ρ'.set 12 (some (.t (.fn ["least_straw", "most_warmth", "last_kept"][i]))))[12]? = some (some (.t (.fn ["least_straw", "most_warmth", "last_kept"][i]))) := set_get (by rw [H'.hl]; decide)
    unfold F_law_14a_0
    have hm : ["least_straw", "most_warmth", "last_kept"][i] ∈ ["least_straw", "most_warmth", "last_kept"] := List.getElem_mem hi
    generalize ["least_straw", "most_warmth", "last_kept"][i] = f at H2 g11 g12 hm
    have hsome : (TT.fn f).isSome = true ∧ callD TT c45 f [.t (houseT ds w door s), .t y] [o] = .ex (exOf "BadIce" y) [o] := by
      simp only [List.mem_cons, List.not_mem_nil, or_false] at hm
      rcases hm with rfl | rfl | rfl
      · exact ⟨rfl, x_least_straw (n := 41) (scal_wrong y hy) (in_wrong y hy)⟩
      · exact ⟨rfl, x_most_warmth (n := 41) (scal_wrong y hy) (in_wrong y hy)⟩
      · exact ⟨rfl, x_last_kept (n := 41) (scal_wrong y hy) (in_wrong y hy)⟩
    have hcv : evalE TT c45 (.calv 12 (.cons (.var 3) (.cons (.var 11) .nil))) (ρ'.set 12 (some (.t (.fn f)))) [o] = .ex (exOf "BadIce" y) [o] := by
      rw [evalE]
      simp only [g12]
      rw [if_pos hsome.1, es_cons0 (ve 3 H2.h3) (es_cons0 (ve 11 g11) es_nil0), R.bind_ok]
      exact hsome.2
    rw [s_cons (x_if0 (e_repr_ne (lam_ice hcv) (e_W (ve 11 g11)) (rp_wrong y hy))), execSs, En_nx]
    exact ⟨H2, g11, rfl⟩
  · obtain ⟨H', h11', rfl⟩ := h
    exact f15 H' ho hy h11'
theorem f13 (H : LE ds w door s ice k ρ) (ho : Row ns o) : Fz F_law_13 ρ [o] := by
  unfold Fz F_law_13
  obtain ⟨x, o', e, hx, ho'⟩ := ev_pk (n := 43) (i := 1) (ρ := ρ) (o := o) (o1 := o) (st := []) (xs := wrongL) H.h1 ho (e_list (es_cons0 (a := .neg (.lit (.int 1))) (x := I (-1)) (st' := [o]) rfl (es_cons0 (a := .lit (.int 100001)) (x := I 100001) (st' := [o]) rfl (es_cons0 (a := .lit .non) (x := .t .non) (st' := [o]) rfl (es_cons0 (a := .lit (.bl true)) (x := B true) (st' := [o]) rfl es_nil0)))) (by simp [wrongL])) (by simp [wrongL]) (by simp [wrongL])
  rw [s_cons (x_asg e (by rw [H.hl]; decide))]
  exact f14 (H.put (by omega)) ho' hx (set_get (by rw [H.hl]; decide))
end
end K12
end

section
set_option Elab.async false
set_option linter.all false
set_option maxRecDepth 100000
set_option maxHeartbeats 4000000
namespace K12
open PySem Ice Pl Nd
theorem pos_days {ds : List Day} (h : ∀ d ∈ ds, DayOk d) : Pos ds := fun d hd => ⟨(h d hd).1.1, (h d hd).2.1.1, (h d hd).2.2.1.1, (h d hd).2.2.2.1⟩
theorem fit_days {ds : List Day} (h : ∀ d ∈ ds, DayOk d) : Fit ds := fun d hd => ⟨by have := (h d hd).1.2; omega, (h d hd).2.1.2, (h d hd).2.2.1.2, (h d hd).2.2.2.2⟩
theorem sum_days : ∀ {ds : List Day}, (∀ d ∈ ds, DayOk d) → sumP ds ≤ 50 * ds.length
  | [], _ => by simp [sumP]
  | d :: ds, h => by
    have h1 := sum_days fun e he => h e (List.mem_cons_of_mem _ he)
    have h2 := (h d List.mem_cons_self).1.2
    have : ((d :: ds).length : Int) = ds.length + 1 := by simp
    show d.p + sumP ds ≤ _
    omega
theorem N_small {ds : List Day} {w door s : Int} (hd : DaysOk ds) (hn : NumOk w door s) : 0 ≤ N door ds s w ∧ N door ds s w ≤ 2000 := by
  refine ⟨N_nonneg hn.2.1.1 (pos_days hd.2) hn.2.2.1 hn.1.1, ?_⟩
  have h1 := N_le hn.2.1.1 hn.2.1.2 (s := s) (w := w) (pos_days hd.2) (fit_days hd.2) hn.2.2.1 hn.1.1
  have h2 := sum_days hd.2
  have h3 := hd.1.2
  omega
theorem LeAll.append {a b c d : List Day} (h : LeAll a b) (h' : LeAll c d) : LeAll (a ++ c) (b ++ d) := by
  induction h with
  | nil => exact h'
  | cons h1 _ ih => exact .cons h1 ih
theorem le_setP {ds : List Day} {k : Nat} (hk : k < ds.length) {p : Int} (hp : p ≤ (ds[k]).p) : LeAll (setP ds k p) ds := by
  rw [setP_at hk]
  have : LeAll (ds.take k ++ { ds[k] with p := p } :: ds.drop (k + 1)) (ds.take k ++ ds[k] :: ds.drop (k + 1)) := LeAll.append .refl (.cons ⟨hp, rfl, rfl, rfl⟩ .refl)
  rwa [← List.drop_eq_getElem_cons hk, List.take_append_drop] at this
/-- a house that asks no more -/
structure Easy (ds : List Day) (w door s : Int) (q : List Day × Int × Int) : Prop where
  hd : DaysOk q.1
  hn : NumOk q.2.1 door q.2.2
  le : N door q.1 q.2.2 q.2.1 ≤ N door ds s w
section
variable {ns : List Int} {ds : List Day} {w door s ice : Int} {k : Nat} {ρ : Ice.Env} {o : O} {st : Store} {x y : T}
theorem f12 (H : LE ds w door s ice k ρ) (ho : Row ns o) {l : List (List Day × Int × Int)} (hl : ∀ q ∈ l, Easy ds w door s q) (h9 : ρ[9]? = some (some (.t (.lst (l.map fun q => toldT q.1 q.2.1 door q.2.2))))) : Fz F_law_12 ρ [o] := by
  unfold Fz F_law_12
  have hi : evalI TT c45 (.it (.var 9)) ρ [o] = .ok (.xs (l.map fun q => D.t (toldT q.1 q.2.1 door q.2.2))) [o] := by
    rw [evalI, ve 9 h9, R.bind_ok]
    show R.ok (It.xs ((l.map fun q => toldT q.1 q.2.1 door q.2.2).map D.t)) [o] = _
    rw [List.map_map]
    rfl
  rw [execSs, execS, hi, Fw.of_ok, En_nxt]
  refine En_for_m (st := [o]) l (fun q => D.t (toldT q.1 q.2.1 door q.2.2)) rfl (fun _ ρ' st' => LE ds w door s ice k ρ' ∧ st' = [o]) ⟨H, rfl⟩ (fun i hi ρ' st' h => ?_) (fun ρ' st' h => ?_)
  · obtain ⟨H', rfl⟩ := h
    have hE := hl l[i] (List.getElem_mem hi)
    generalize l[i] = q at hE
    obtain ⟨es, v, t⟩ := q
    obtain ⟨qd, qn, qle⟩ := hE
    simp only at qd qn qle
    refine ⟨ρ'.set 10 (some (.t (toldT es v door t))), by unfold bindT; rw [if_pos (by rw [H'.hl]; decide)], ?_⟩
    have H2 := H'.put (i := 10) (by omega) (v := some (.t (toldT es v door t)))
    have g10 : (ρ'.set 10 (some (.t (toldT es v door t))))[10]? = some (some (.t (toldT es v door t))) := set_get (by rw [H'.hl]; decide)
    generalize ρ'.set 10 (some (.t (toldT es v door t))) = ρ2 at H2 g10
    unfold F_law_12a_0
    rw [s_cons (x_asg (x := I (N door es t v)) (st' := [o]) (by
      rw [e_call1 (x := .t (houseT es v door t)) (st' := [o]) (by
        rw [e_new (es_cons0 (ev_ds g10) (es_cons0 (e_sub (ve 10 g10) (st'' := [o]) (y := I 1) rfl to_1) (es_cons0 (e_sub (ve 10 g10) (st'' := [o]) (y := I 2) rfl to_2) (es_cons0 (e_sub (ve 10 g10) (st'' := [o]) (y := I 3) rfl to_3) es_nil0))))]
        exact s_house (n := 40) qd qn)]
      exact s_whole_need (n := 6) (hok qd qn)) (by rw [H2.hl]; decide))]
    have H3 := H2.put (i := 15) (by omega) (v := some (I (N door es t v)))
    have g10' : (ρ2.set 15 (some (I (N door es t v))))[10]? = some (some (.t (toldT es v door t))) := (set_ne (by omega)).trans g10
    have g15 : (ρ2.set 15 (some (I (N door es t v))))[15]? = some (some (I (N door es t v))) := set_get (by rw [H2.hl]; decide)
    unfold F_law_12a_1
    rw [s_cons (x_if0 ?_), execSs, En_nx]
    · exact ⟨H3, rfl⟩
    · have ha : evalE TT c45 (.nt (.call "_law_alike" (.cons (.var 15) (.cons (.call "_law_whole" (.cons (.var 10) .nil)) .nil)))) (ρ2.set 15 (some (I (N door es t v)))) [o] = .ok (B false) [o] := by
        refine e_nt (k := true) ?_
        rw [e_call2 (ve 15 g15) (by rw [e_call1 (ve 10 g10')]; exact s_law_whole (n := 6) (hok qd qn))]
        exact al_int (n := 44) [o]
      rw [e_or_f ha]
      have hb : evalE TT c45 (.cmp .gt (.var 15) (.var 4)) (ρ2.set 15 (some (I (N door es t v)))) [o] = .ok (B false) [o] := e_cmp (ve 15 g15) (ve 4 H3.h4) (by rw [cmp_gt, decide_eq_false (by omega)])
      rw [e_or_f hb]
      exact e_cmp (x := I (N door ds s w)) (st' := [o]) (by rw [e_call1 (ve 3 H3.h3)]; exact s_whole_need (n := 6) (hok H.hd H.hn)) (ve 4 H3.h4) (by rw [cmp_ne, decide_eq_true rfl]; rfl)
  · obtain ⟨H', rfl⟩ := h
    exact f13 H' ho
theorem f11 (H : LE ds w door s ice k ρ) (ho : Row ns o) : Fz F_law_11 ρ [o] := by
  unfold Fz F_law_11
  have hn := H.hn
  have hdk := H.hd.2 _ (List.getElem_mem H.hk)
  have hp0 : 0 ≤ (ds[k]'H.hk).p := hdk.1.1
  have hp50 : (ds[k]'H.hk).p ≤ 50 := hdk.1.2
  have e1 : evalE TT c45 (.bin .add (.cut (.var 2) .non (.som (.lit (.int 3)))) (.tup (.cons (.bi .min (.cons (.lit (.int 8)) (.cons (.bin .add (.sub (.var 2) (.lit (.int 3))) (.lit (.int 1))) .nil))) .nil))) ρ [o] = .ok (.t (toldT ds w door (min 8 (s + 1)))) [o] := by
    have h8 : evalE TT c45 (.bi .min (.cons (.lit (.int 8)) (.cons (.bin .add (.sub (.var 2) (.lit (.int 3))) (.lit (.int 1))) .nil))) ρ [o] = .ok (I (min 8 (s + 1))) [o] := e_bi2 (x := I 8) (st' := [o]) rfl (e_bin (e_sub (ve 2 H.h2) (st'' := [o]) (y := I 3) rfl to_3) (y := I 1) (st'' := [o]) rfl bin_add) min2_int
    rw [e_cat (e_told_to (j := 3) (i := 2) 3 rfl H.h2) (e_tup1 h8) (by simp)]
    rfl
  have e2 : evalE TT c45 (.bin .add (.tup (.cons (.sub (.var 2) (.lit (.int 0))) (.cons (.bi .max (.cons (.lit (.int 0)) (.cons (.bin .sub (.sub (.var 2) (.lit (.int 1))) (.lit (.int 1))) .nil))) .nil))) (.cut (.var 2) (.som (.lit (.int 2))) .non)) ρ [o] = .ok (.t (toldT ds (max 0 (w - 1)) door s)) [o] := by
    have h8 : evalE TT c45 (.bi .max (.cons (.lit (.int 0)) (.cons (.bin .sub (.sub (.var 2) (.lit (.int 1))) (.lit (.int 1))) .nil))) ρ [o] = .ok (I (max 0 (w - 1))) [o] := e_bi2 (x := I 0) (st' := [o]) rfl (e_bin (e_sub (ve 2 H.h2) (st'' := [o]) (y := I 1) rfl to_1) (y := I 1) (st'' := [o]) rfl bin_sub) max2_int
    rw [e_cat (e_tup2 (ev_ds H.h2) h8) (e_told_from (j := 2) (i := 2) 2 rfl H.h2) (by simp)]
    rfl
  have e3 : evalE TT c45 (.call "_law_with_promise" (.cons (.var 2) (.cons (.var 6) (.cons (.bin .fdiv (.sub (.sub (.sub (.var 2) (.lit (.int 0))) (.var 6)) (.lit (.int 0))) (.lit (.int 2))) .nil)))) ρ [o] = .ok (.t (toldT (setP ds k ((ds[k]'H.hk).p / 2)) w door s)) [o] := by
    rw [e_call3 (ve 2 H.h2) (ve 6 H.h6) (e_bin (e_sub (ev_day H.h2 H.h6 H.hk) (st'' := [o]) (y := I 0) rfl day_p) (b := .lit (.int 2)) (y := I 2) (st'' := [o]) rfl (by rw [bin_fdiv, if_pos (by decide)]))]
    exact s_law_with_promise H.hk (by have := H.d5; omega)
  rw [s_cons (x_asg (e_list (xs := [(ds, w, min 8 (s + 1)), (ds, max 0 (w - 1), s), (setP ds k ((ds[k]'H.hk).p / 2), w, s)].map fun q : List Day × Int × Int => toldT q.1 q.2.1 door q.2.2) (es_cons0 e1 (es_cons0 e2 (es_cons0 e3 es_nil0))) (by simp)) (by rw [H.hl]; decide))]
  refine f12 (H.put (by omega)) ho (fun q hq => ?_) (set_get (by rw [H.hl]; decide))
  have hn0 := hn
  obtain ⟨⟨w0, w12⟩, ⟨d0, d9⟩, s0, s8⟩ := hn
  have hds := pos_days H.hd.2
  simp only [List.mem_cons, List.not_mem_nil, or_false] at hq
  rcases hq with rfl | rfl | rfl
  · exact ⟨H.hd, ⟨⟨w0, w12⟩, ⟨d0, d9⟩, by show 0 ≤ min 8 (s + 1); omega, by show min 8 (s + 1) ≤ 8; omega⟩, N_mono d0 .refl hds hds (by show s ≤ min 8 (s + 1); omega) s0 (Int.le_refl _) w0⟩
  · exact ⟨H.hd, ⟨⟨by show 0 ≤ max 0 (w - 1); omega, by show max 0 (w - 1) ≤ 12; omega⟩, ⟨d0, d9⟩, s0, s8⟩, N_mono d0 .refl hds hds (Int.le_refl _) s0 (by show max 0 (w - 1) ≤ w; omega) (by show 0 ≤ max 0 (w - 1); omega)⟩
  · have hs := ok_setP (p := (ds[k]'H.hk).p / 2) H.hd H.hk (by omega) (by omega)
    exact ⟨hs, hn0, N_mono d0 (le_setP H.hk (by omega)) (pos_days hs.2) hds (Int.le_refl _) s0 (Int.le_refl _) w0⟩
/-! ### the last day kept -/
def kept (P : Nat → Bool) : Nat → Nat
  | 0 => 0
  | m + 1 => if P (m + 1) then m + 1 else kept P m
theorem kept_spec (P : Nat → Bool) : ∀ m, kept P m ≤ m ∧ (kept P m = 0 ∨ P (kept P m) = true) ∧ ∀ t, kept P m < t → t ≤ m → P t = false
  | 0 => ⟨Nat.le_refl 0, .inl rfl, fun t h1 h2 => by omega⟩
  | m + 1 => by
    obtain ⟨h1, h2, h3⟩ := kept_spec P m
    unfold kept
    by_cases c : P (m + 1) = true
    · rw [if_pos c]
      exact ⟨Nat.le_refl _, .inr c, fun t h4 h5 => by omega⟩
    · rw [if_neg c]
      refine ⟨by omega, h2, fun t h4 h5 => ?_⟩
      by_cases e : t = m + 1
      · subst e; simpa using c
      · exact h3 t h4 (by omega)
theorem kept_first {P : Nat → Bool} {m : Nat} : (firstD m (fun i => P (m - i)) fun i => I ((m : Int) - (i : Int))).getD (I 0) = I ((kept P m : Nat) : Int) := by
  obtain ⟨h1, h2, h3⟩ := kept_spec P m
  by_cases c : kept P m = 0
  · rw [firstD_none fun j hj => h3 (m - j) (by omega) (by omega), c]
    rfl
  · rw [firstD_some (i := m - kept P m) (by omega) (by show P (m - (m - kept P m)) = true; rw [show m - (m - kept P m) = kept P m from by omega]; exact h2.resolve_left c) fun j hj => h3 (m - j) (by omega) (by omega)]
    show I _ = I _
    rw [show (m : Int) - ((m - kept P m : Nat) : Int) = ((kept P m : Nat) : Int) from by omega]
def KP (ds : List Day) (w door s ice : Int) (m : Nat) : Bool := decide (N door (cutP ds m) s w ≤ ice)
theorem f10 (H : LE ds w door s ice k ρ) (ho : Row ns o) (h7 : ρ[7]? = some (some (I ((kept (KP ds w door s ice) ds.length : Nat) : Int)))) : Fz F_law_10 ρ [o] := by
  unfold F_law_10
  refine f_alike (x := .int ((kept (KP ds w door s ice) ds.length : Nat) : Int)) ?_ (ve 7 h7) (al_int (n := 44)) (f11 H ho)
  rw [e_call2 (ve 3 H.h3) (ve 5 H.h5), s_last_kept (n := 4) H.hd H.hn H.hi]
  rw [show (fun i => decide (N door (cutP ds (ds.length - i)) s w ≤ ice)) = fun i => KP ds w door s ice (ds.length - i) from rfl, kept_first]
theorem e_tuple {cf : CallF} {a : Ex} {l : List T} (ha : evalE TT cf a ρ st = .ok (.t (.lst l)) st) : evalE TT cf (.bi .tuple (.cons a .nil)) ρ st = .ok (.t (.tup l)) st := by
  refine e_bi ha ?_
  unfold biD one tupD
  show (some (l.map D.t)).bind (fun xs => (trees xs).map fun ys => D.t (.tup ys)) = _
  rw [Option.bind_some, trees_t]
  rfl
theorem l_cutP {cf : CallF} {ρ : Ice.Env} {j m : Nat} {k : Nat} {a : Ex} (hl : ds.length ≤ 12) (ha : evalE TT cf a ρ st = .ok (.t (dsT ds)) st) (hlen : j < ρ.length) (hm : ρ[m]? = some (some (I (k : Int)))) :
    evalE TT cf (.fr (.comp (.bin .add (.tup (.cons (.lit (.int 0)) .nil)) (.cut (.var j) (.som (.lit (.int 1))) .non)) (.nm j) (.it (.cut a (.som (.var m)) .non)) .non [j])) ρ st = .ok (.t (.lst (((ds.drop k).map fun d => { d with p := 0 }).map Day.t))) st := by
  refine e_fr ?_
  have hi : evalI TT cf (.it (.cut a (.som (.var m)) .non)) ρ st = .ok (.xs (((ds.drop k).map Day.t).map D.t)) st := by
    rw [evalI, e_days_from ha (ve m hm)]
    rfl
  rw [evalL, hi, R.bind_ok, comp_m (ds.drop k) (fun d => .t d.t) (fun d => .t (Day.t { d with p := 0 })) (by rw [List.map_map]; rfl)]
  · rw [List.map_map, List.map_map]
    rfl
  · intro d _
    have hw : j < (wipeE ρ [j]).length := by simpa [wipeE] using hlen
    have hbt : bindT (.nm j) (.t d.t) (wipeE ρ [j]) = some ((wipeE ρ [j]).set j (some (.t d.t))) := by
      unfold bindT
      rw [if_pos hw]
    rw [hbt, ofOpt_some, R.bind_ok]
    simp only [condO, R.bind_ok]
    rw [e_cat (xs := [.int 0]) (ys := [.int d.m, .int d.r, .int d.g]) (e_tup1 (t := .int 0) rfl) (e_day_tail (ve j (set_get hw))) (by simp)]
    rfl
  · rw [List.length_drop]
    omega
theorem f9 (H : LE ds w door s ice k ρ) (ho : Row ns o) (h7 : ρ[7]? = some (some (I 0))) : Fz F_law_9 ρ [o] := by
  unfold Fz F_law_9
  have hl := H.d5
  have hr : evalI TT c45 (.range (.cons (.lit (.int 1)) (.cons (.bin .add (.bi .len (.cons (.sub (.var 2) (.lit (.int 0))) .nil)) (.lit (.int 1))) .nil))) ρ [o] = .ok (.rng 1 1 ds.length) [o] := by
    have hadd : evalE TT c45 (.bin .add (.bi .len (.cons (.sub (.var 2) (.lit (.int 0))) .nil)) (.lit (.int 1))) ρ [o] = .ok (I ((ds.length : Int) + 1)) [o] := e_bin (ev_tlen H.h2) (b := .lit (.int 1)) (y := I 1) (st'' := [o]) rfl bin_add
    rw [evI_range2 (x := 1) (y := (ds.length : Int) + 1) rfl hadd (by omega), show ((ds.length : Int) + 1 - 1).toNat = ds.length from by omega]
  rw [execSs, execS, hr, Fw.of_ok, En_nxt]
  refine En_for_rng (fun m ρ' st' => LE ds w door s ice k ρ' ∧ ρ'[7]? = some (some (I ((kept (KP ds w door s ice) m : Nat) : Int))) ∧ st' = [o]) ⟨H, h7, rfl⟩ (fun m hm ρ' st' h => ?_) (fun ρ' st' h => ?_)
  · obtain ⟨H', h7', rfl⟩ := h
    have em : (1 : Int) + (m : Int) * 1 = ((m + 1 : Nat) : Int) := by omega
    rw [em]
    refine ⟨ρ'.set 8 (some (I ((m + 1 : Nat) : Int))), by unfold bindT; rw [if_pos (by rw [H'.hl]; decide)], ?_⟩
    have H2 := H'.put (i := 8) (by omega) (v := some (I ((m + 1 : Nat) : Int)))
    have g8 : (ρ'.set 8 (some (I ((m + 1 : Nat) : Int))))[8]? = some (some (I ((m + 1 : Nat) : Int))) := set_get (by rw [H'.hl]; decide)
    have g7 : (ρ'.set 8 (some (I ((m + 1 : Nat) : Int))))[7]? = some (some (I ((kept (KP ds w door s ice) m : Nat) : Int))) := (set_ne (by omega)).trans h7'
    generalize ρ'.set 8 (some (I ((m + 1 : Nat) : Int))) = ρ2 at H2 g8 g7
    unfold F_law_9a_0
    have hcp := l_cutP (st := [o]) (cf := c45) (j := 18) (m := 8) (by omega : ds.length ≤ 12) (ev_ds H2.h2) (by rw [H2.hl]; decide) g8
    have hday : evalE TT c45 (.bin .add (.cut (.sub (.var 2) (.lit (.int 0))) .non (.som (.var 8))) (.bi .tuple (.cons (.fr (.comp (.bin .add (.tup (.cons (.lit (.int 0)) .nil)) (.cut (.var 18) (.som (.lit (.int 1))) .non)) (.nm 18) (.it (.cut (.sub (.var 2) (.lit (.int 0))) (.som (.var 8)) .non)) .non [18])) .nil))) ρ2 [o] = .ok (.t (dsT (cutP ds (m + 1)))) [o] := by
      have := e_cat (e_days_to (ev_ds (st := [o]) (cf := c45) H2.h2) (ve 8 g8)) (e_tuple hcp) (by simp; omega)
      rw [this]
      unfold dsT cutP
      simp
    rw [s_cons (x_asg hday (by rw [H2.hl]; decide))]
    have H3 := H2.put (i := 14) (by omega) (v := some (.t (dsT (cutP ds (m + 1)))))
    have q14 : (ρ2.set 14 (some (.t (dsT (cutP ds (m + 1))))))[14]? = some (some (.t (dsT (cutP ds (m + 1))))) := set_get (by rw [H2.hl]; decide)
    have q8 : (ρ2.set 14 (some (.t (dsT (cutP ds (m + 1))))))[8]? = some (some (I ((m + 1 : Nat) : Int))) := (set_ne (by omega)).trans g8
    have q7 : (ρ2.set 14 (some (.t (dsT (cutP ds (m + 1))))))[7]? = some (some (I ((kept (KP ds w door s ice) m : Nat) : Int))) := (set_ne (by omega)).trans g7
    generalize ρ2.set 14 (some (.t (dsT (cutP ds (m + 1))))) = ρ3 at H3 q14 q8 q7
    unfold F_law_9a_1
    have hc : evalE TT c45 (.cmp .le (.call "_law_whole" (.cons (.bin .add (.tup (.cons (.var 14) .nil)) (.cut (.var 2) (.som (.lit (.int 1))) .non)) .nil)) (.var 5)) ρ3 [o] = .ok (B (KP ds w door s ice (m + 1))) [o] := by
      refine e_cmp (x := I (N door (cutP ds (m + 1)) s w)) (st' := [o]) ?_ (ve 5 H3.h5) cmp_le
      have ht : evalE TT c45 (.bin .add (.tup (.cons (.var 14) .nil)) (.cut (.var 2) (.som (.lit (.int 1))) .non)) ρ3 [o] = .ok (.t (toldT (cutP ds (m + 1)) w door s)) [o] := by
        rw [e_cat (e_tup1 (ve 14 q14)) (e_told_from (j := 1) (i := 2) 1 rfl H3.h2) (by simp)]
        rfl
      rw [e_call1 ht]
      exact s_law_whole (n := 6) (hok (ok_cutP H.hd) H.hn)
    have hit : evalE TT c45 (.ite (.cmp .le (.call "_law_whole" (.cons (.bin .add (.tup (.cons (.var 14) .nil)) (.cut (.var 2) (.som (.lit (.int 1))) .non)) .nil)) (.var 5)) (.var 8) (.var 7)) ρ3 [o] = .ok (I ((kept (KP ds w door s ice) (m + 1) : Nat) : Int)) [o] := by
      unfold kept
      cases hk : KP ds w door s ice (m + 1) with
      | true => rw [hk] at hc; rw [e_ite_t hc, ve 8 q8, if_pos rfl]
      | false => rw [hk] at hc; rw [e_ite_f hc, ve 7 q7, if_neg (by decide)]
    rw [s_cons (x_asg hit (by rw [H3.hl]; decide)), execSs, En_nx]
    exact ⟨H3.put (by omega), set_get (by rw [H3.hl]; decide), rfl⟩
  · obtain ⟨H', h7', rfl⟩ := h
    exact f10 H' ho h7'
theorem f8 (H : LE ds w door s ice k ρ) (ho : Row ns o) : Fz F_law_8 ρ [o] := by
  unfold Fz F_law_8
  rw [s_cons (x_asg (x := I 0) (st' := [o]) rfl (by rw [H.hl]; decide))]
  exact f9 (H.put (by omega)) ho (set_get (by rw [H.hl]; decide))
theorem f7 (H : LE ds w door s ice k ρ) (ho : Row ns o) : Fz F_law_7 ρ [o] := by
  unfold F_law_7
  refine f_alike ?_ ?_ (al_first (n := 44) (m := 51) (p := fun i => decide (N door (setP ds k (50 - (i : Int))) s w ≤ ice)) (out := fun i => 50 - (i : Int))) (f8 H ho)
  · rw [e_call3 (ve 3 H.h3) (ve 5 H.h5) (ve 6 H.h6)]
    exact s_most_promise (n := 4) H.hk H.hd H.hn H.hi
  · rw [e_call2 (e_try_promise H) (ve 5 H.h5)]
    exact s_law_first (n := 5) (m := 51) (f := fun i => 50 - (i : Int)) (g := fun i => (setP ds k (50 - (i : Int)), w, door, s)) (by decide) fun i hi => hok (ok_setP H.hd H.hk (by omega) (by omega)) H.hn
theorem f6 (H : LE ds w door s ice k ρ) (ho : Row ns o) : Fz F_law_6 ρ [o] := by
  unfold F_law_6
  refine f_alike ?_ ?_ (al_first (n := 44) (m := 13) (p := fun i => decide (N door ds s (12 - (i : Int)) ≤ ice)) (out := fun i => 12 - (i : Int))) (f7 H ho)
  · rw [e_call2 (ve 3 H.h3) (ve 5 H.h5)]
    exact s_most_warmth (n := 4) H.hd H.hn H.hi
  · rw [e_call2 (e_try_warmth H) (ve 5 H.h5)]
    exact s_law_first (n := 5) (m := 13) (f := fun i => 12 - (i : Int)) (g := fun i => (ds, 12 - (i : Int), door, s)) (by decide) fun i hi => hok H.hd ⟨by show 0 ≤ 12 - (i : Int) ∧ 12 - (i : Int) ≤ 12; omega, H.hn.2⟩
theorem f5 (H : LE ds w door s ice k ρ) (ho : Row ns o) : Fz F_law_5 ρ [o] := by
  unfold F_law_5
  refine f_alike ?_ ?_ (al_first (n := 44) (m := 9) (p := fun i => decide (N door ds (i : Int) w ≤ ice)) (out := fun i => (i : Int))) (f6 H ho)
  · rw [e_call2 (ve 3 H.h3) (ve 5 H.h5)]
    exact s_least_straw (n := 4) H.hd H.hn H.hi
  · rw [e_call2 (e_try_straw H) (ve 5 H.h5)]
    exact s_law_first (n := 5) (m := 9) (f := fun i => (i : Int)) (g := fun i => (ds, w, door, (i : Int))) (by decide) fun i hi => hok H.hd ⟨H.hn.1, H.hn.2.1, by show 0 ≤ (i : Int); omega, by show (i : Int) ≤ 8; omega⟩
end
end K12
end

section
set_option Elab.async false
set_option linter.all false
set_option maxRecDepth 100000
set_option maxHeartbeats 4000000
namespace K12
open PySem Ice Pl Nd
theorem x_par2 {P : Tab} {cf : CallF} {ρ : Ice.Env} {st st' : Store} {i j : Nat} {es : Exs} {x y : D} (h : evalEs P cf es ρ st = .ok [x, y] st') (hi : i < ρ.length) (hj : j < ρ.length) : execS P cf (.par [i, j] es) ρ st = .nx ((ρ.set i (some x)).set j (some y)) st' := by
  rw [execS, h]
  show (match setMany [i, j] [x, y] ρ with
    | some ρ => Fw.nx ρ st'
    | none => .no) = _
  unfold setMany setMany setMany
  rw [if_pos hi, if_pos (by rw [List.length_set]; exact hj)]
section
variable {ns : List Int} {ds : List Day} {w door s : Int} {ρ : Ice.Env} {o : O} {st : Store} {x y : T}
theorem f4 (hd : DaysOk ds) (d5 : ds.length ≤ 5) (hn : NumOk w door s) (ho : Row ns o) (h1 : ρ[1]? = some (some (.h 0))) (h2 : ρ[2]? = some (some (.t (toldT ds w door s)))) (h3 : ρ[3]? = some (some (.t (houseT ds w door s)))) (h4 : ρ[4]? = some (some (I (N door ds s w)))) (hl : ρ.length = 19) : Fz F_law_4 ρ [o] := by
  unfold Fz F_law_4
  obtain ⟨b1, b2⟩ := N_small hd hn
  generalize hL : N door ds s w = L at h4 b1 b2
  obtain ⟨p1, q1, e1, c1, r1⟩ := ev_tkl (n := 44) (i := 1) (ρ := ρ) (st := []) h1 ho 20 (by omega) (by omega)
  have em : evalE TT c45 (.bin .add (.var 4) (.lit (.int 1))) ρ [q1] = .ok (I (L + 1)) [q1] := e_bin (ve 4 h4) (y := I 1) (st'' := [q1]) rfl bin_add
  obtain ⟨p2, q2, e2, c2, r2⟩ := ev_tk (n := 44) (i := 1) (ρ := ρ) (o := q1) (o1 := q1) (st := []) h1 r1 em (by omega) (by omega)
  have ea : evalE TT c45 (.bin .add (.var 4) (.call "_law_taken" (.cons (.var 1) (.cons (.lit (.int 20)) .nil)))) ρ [o] = .ok (I (L + p1)) [q1] := e_bin (ve 4 h4) e1 bin_add
  have eb : evalE TT c45 (.bi .max (.cons (.lit (.int 0)) (.cons (.bin .sub (.var 4) (.lit (.int 1))) .nil))) ρ [o] = .ok (I (max 0 (L - 1))) [o] := e_bi2 (x := I 0) (st' := [o]) rfl (e_bin (ve 4 h4) (y := I 1) (st'' := [o]) rfl bin_sub) max2_int
  obtain ⟨x, q3, e3, hx, r3⟩ := ev_pk (n := 43) (i := 1) (ρ := ρ) (o := o) (o1 := q2) (st := []) (xs := [.int L, .int (max 0 (L - 1)), .int (L + p1), .int p2]) h1 r2 (e_list (es_cons0 (ve 4 h4) (es_cons0 eb (es_cons0 ea (es_cons0 e2 es_nil0)))) (by simp)) (by simp) (by simp)
  obtain ⟨ice, rfl, hi⟩ : ∃ z : Int, x = .int z ∧ 0 ≤ z ∧ z ≤ 100000 := by
    simp only [List.mem_cons, List.not_mem_nil, or_false] at hx
    rcases hx with rfl | rfl | rfl | rfl <;> exact ⟨_, rfl, by omega, by omega⟩
  have hlen := hd.1.1
  obtain ⟨v, q4, e4, c4, r4⟩ := ev_tk (n := 44) (i := 1) (ρ := ρ) (o := q3) (o1 := q3) (st := []) h1 r3 (ev_tlen h2) (by omega) (by omega)
  rw [s_cons (x_par2 (es_cons0 e3 (es_cons0 e4 es_nil0)) (by omega) (by omega))]
  obtain ⟨k, rfl⟩ : ∃ k : Nat, v = k := ⟨v.toNat, by omega⟩
  refine f5 (k := k) ⟨hd, d5, hn, hi, by omega, ?_, ?_, ?_, ?_, ?_, ?_, by simp [hl]⟩ r4
  · rw [set_ne (by decide), set_ne (by decide)]; exact h1
  · rw [set_ne (by decide), set_ne (by decide)]; exact h2
  · rw [set_ne (by decide), set_ne (by decide)]; exact h3
  · rw [set_ne (by decide), set_ne (by decide), hL]; exact h4
  · rw [set_ne (by decide)]; exact set_get (by omega)
  · exact set_get (by rw [List.length_set]; omega)
theorem f3 (hd : DaysOk ds) (d5 : ds.length ≤ 5) (hn : NumOk w door s) (ho : Row ns o) (h1 : ρ[1]? = some (some (.h 0))) (h2 : ρ[2]? = some (some (.t (toldT ds w door s)))) (hl : ρ.length = 19) : Fz F_law_3 ρ [o] := by
  unfold Fz F_law_3
  have eh : evalE TT c45 (.new "House" (.cons (.sub (.var 2) (.lit (.int 0))) (.cons (.sub (.var 2) (.lit (.int 1))) (.cons (.sub (.var 2) (.lit (.int 2))) (.cons (.sub (.var 2) (.lit (.int 3))) .nil))))) ρ [o] = .ok (.t (houseT ds w door s)) [o] := by
    rw [e_new (es_cons0 (ev_ds h2) (es_cons0 (e_sub (ve 2 h2) (st'' := [o]) (y := I 1) rfl to_1) (es_cons0 (e_sub (ve 2 h2) (st'' := [o]) (y := I 2) rfl to_2) (es_cons0 (e_sub (ve 2 h2) (st'' := [o]) (y := I 3) rfl to_3) es_nil0))))]
    exact s_house (n := 40) hd hn
  have el : evalE TT c45 (.call "_law_whole" (.cons (.var 2) .nil)) ρ [o] = .ok (I (N door ds s w)) [o] := by
    rw [e_call1 (ve 2 h2)]
    exact s_law_whole (n := 6) (hok hd hn)
  rw [s_cons (x_par2 (es_cons0 eh (es_cons0 el es_nil0)) (by omega) (by omega))]
  refine f4 hd d5 hn ho ?_ ?_ ?_ ?_ (by simp [hl])
  · rw [set_ne (by decide), set_ne (by decide)]; exact h1
  · rw [set_ne (by decide), set_ne (by decide)]; exact h2
  · rw [set_ne (by decide)]; exact set_get (by omega)
  · exact set_get (by rw [List.length_set]; omega)
theorem f2 (hd : DaysOk ds) (hn : NumOk w door s) (ho : Row ns o) (h1 : ρ[1]? = some (some (.h 0))) (h2 : ρ[2]? = some (some (.t (toldT ds w door s)))) (hl : ρ.length = 19) : Fz F_law_2 ρ [o] := by
  unfold Fz F_law_2
  have e5 : evalE TT c45 (.cut (.sub (.var 2) (.lit (.int 0))) .non (.som (.lit (.int 5)))) ρ [o] = .ok (.t (dsT (ds.take 5))) [o] := e_days_to (k := 5) (ev_ds h2) rfl
  have ea : evalE TT c45 (.bin .add (.tup (.cons (.cut (.sub (.var 2) (.lit (.int 0))) .non (.som (.lit (.int 5)))) .nil)) (.cut (.var 2) (.som (.lit (.int 1))) .non)) ρ [o] = .ok (.t (toldT (ds.take 5) w door s)) [o] := by
    rw [e_cat (e_tup1 e5) (e_told_from (j := 1) (i := 2) 1 rfl h2) (by simp)]
    rfl
  rw [s_cons (x_asg ea (by omega))]
  have h1' := hd.1
  refine f3 ⟨by rw [List.length_take]; omega, fun d h => hd.2 d (List.mem_of_mem_take h)⟩ (by rw [List.length_take]; omega) hn ho ((set_ne (by decide)).trans h1) (set_get (by omega)) (by rw [List.length_set]; exact hl)
theorem f1 (ho : Row ns o) (h1 : ρ[1]? = some (some (.h 0))) (hl : ρ.length = 19) : Fz F_law_1 ρ [o] := by
  unfold Fz F_law_1
  obtain ⟨d, st', e, ds, w, door, s, o', rfl, hd, hn, ho', rfl⟩ := (s_law_house (n := 42) (st := []) (ho := ho)).eq
  rw [s_cons (x_asg (x := .t (toldT ds w door s)) (st' := [o']) (by rw [e_call1 (ve 1 h1)]; exact e) (by omega))]
  exact f2 hd hn ho' ((set_ne (by decide)).trans h1) (set_get (by omega)) (by rw [List.length_set]; exact hl)
end
/-- the plain law -/
theorem plain_k12 (ns : List Int) : ∃ st, endF (execSs TT (callN TT 45) F_law.body (startE F_law [.t (.scr ns)]) []) = .ok (.t (.bl true)) st := by
  have key : Fz F_law_0 (startE F_law [.t (.scr ns)]) [] := by
    unfold Fz F_law_0
    have w0 : execS TT c45 (.asg (.nm 1) (.mu (.disp (.cons (.var 0) (.cons (.lit (.int 0)) (.cons (.lit (.int 1212)) (.cons (.lit (.int 0)) .nil))))))) (startE F_law [.t (.scr ns)]) [] = .nx ((startE F_law [.t (.scr ns)]).set 1 (some (.h 0))) [RO ns 0 1212 0] := rfl
    rw [s_cons w0]
    exact f1 ⟨0, 1212, 0, rfl, by omega⟩ rfl rfl
  have h2 : Ok (endF (execSs TT (callN TT 45) F_law.body (startE F_law [.t (.scr ns)]) [])) (fun d _ => d = B true) := by
    rw [Ok_endF]
    exact key.mono (fun _ _ h => h.elim) (fun _ _ h => h)
  obtain ⟨d, st, e, rfl⟩ := h2.eq
  exact ⟨st, e⟩
end K12
end

section
open PySem PySem.W PyProof.Rows
set_option Elab.async false
set_option maxRecDepth 100000
set_option maxHeartbeats 0
open_top hd for PySem.Challenge.rw_icekeep_k12_whole_more_and_less
end

section
set_option Elab.async false
set_option linter.all false
set_option maxRecDepth 100000
set_option maxHeartbeats 4000000
namespace K12
open PySem PySem.Spec PyProof.Rows PySem.W L2 Ice
def fAs : List (String × Addr) := [("law", 446), ("is_integer", 28), ("is_within", 35), ("is_row", 42), ("is_tuple_of", 49), ("is_day", 148), ("check_days", 155), ("check_numbers", 162), ("House.__init__", 177), ("House.__eq__", 184), ("House.parts", 191), ("check_ice", 205), ("check_day", 212), ("melted", 219), ("taken", 226), ("Needs.__init__", 238), ("Needs.of", 243), ("Needs.degrees", 250), ("Needs.with_sacks", 257), ("Needs.least", 262), ("needs_of", 283), ("told_need", 290), ("whole_need", 297), ("is_sure", 304), ("least_straw", 311), ("most_warmth", 318), ("with_promise", 325), ("need_of_days", 332), ("most_promise", 339), ("last_kept", 344), ("_law_taken", 351), ("_law_pick", 358), ("_law_alike", 363), ("_law_house", 370), ("_law_taken_on", 377), ("_law_melt", 384), ("_law_last", 389), ("_law_with", 396), ("_law_least", 401), ("_law_degrees", 408), ("_law_need", 413), ("_law_whole", 420), ("_law_first", 427), ("_law_with_promise", 434), ("_law_refused", 441)]
def cAs : List (String × Addr) := [("IceError", 67), ("BadDays", 80), ("BadWarmth", 92), ("BadDoor", 104), ("BadStraw", 116), ("BadDay", 128), ("BadIce", 140), ("House", 194), ("Needs", 272)]
def S : Src0 := ⟨fns, cons, clss, excs, lams, fAs, cAs, [(445, 443)], [(443, "law.<locals>.<lambda>")]⟩
theorem c1 (p : Params) : S.fns.all (S.fnB1 (hd.heap_39 p)) = true := by kernel_rfl
theorem c2 (p : Params) : S.cons.all (S.conB1 (hd.heap_39 p)) = true := by kernel_rfl
theorem c3 (p : Params) : bltNames.all (bltB (hd.heap_39 p)) = true := by kernel_rfl
theorem c4 (p : Params) : S.excs.all (S.excB1 (hd.heap_39 p)) = true := by kernel_rfl
theorem c5 (p : Params) : S.lams.all (S.lamB1 (hd.heap_39 p)) = true := by kernel_rfl
theorem c6 (p : Params) : S.tabB (hd.heap_39 p) = true := by kernel_rfl
theorem cl (p : Params) : fnB (hd.heap_39 p) S.fA nm S.TB S.cs S.tab true "law" F_law = true := by kernel_rfl
theorem okB (p : Params) : S.okB (hd.heap_39 p) = true := by
  unfold Src0.okB
  rw [c1, c2, c3, c4, c5, c6]
  rfl
theorem c7 (p : Params) : S.clsB (hd.heap_39 p) = true := by kernel_rfl
theorem clsOk (p : Params) : ClsOk (hd.heap_39 p) S := clsB_ok (c7 p)
theorem plain (ns : List Int) (h : ns.length ≤ 63) (hb : ∀ z ∈ ns, Builtin.Int.intBits z ≤ 1048576) : ∃ st, runF S.tab 45 F_law [.t (.scr ns)] [] = .ok (.t (.bl true)) st := plain_k12 ns
theorem holds : PySem.Challenge.rw_icekeep_k12_whole_more_and_less.Holds := hd (by
  refine walk_ice (l := PySem.Challenge.rw_icekeep_k12_whole_more_and_less) (n := 63) (M := 45) (S := S) (F := F_law) (fa := 446) rfl (by decide) rfl ⟨rfl, by decide, by decide⟩ rfl (fun w h Y => PySem.W.km_in_of Y) (fun w h Y p hp => ?_) (fun p => by kernel_rfl) okB clsOk (fun p => fnB_ok (fA := S.fA) (f := "law") (cl p)) (by decide) rfl plain
  have q := PySem.W.km_tabs_of Y
  have e : p = (445, 443) := by simpa [S] using hp
  rw [e]
  exact q 443 (by simp))
end K12
end

theorem PySem.Challenge.cw_icekeep_k12_whole_more_and_less_holds : PySem.Challenge.rw_icekeep_k12_whole_more_and_less.Holds := by
  exact K12.holds
