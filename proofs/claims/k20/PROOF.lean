import PyProof.Rows.All
import Wide.All
import OpenK.AllK
import Wide.FinOn
import HandS.ForMost
import HandS.SortInts
import HandS.Lambda
import HandS.EndTab
import HandS.IsInst
import HandS.Style
import HandS.Wide
import HandS.CallLocal
import HandS.ExcCtx
import HandS.Zip
import HandS.TupAny
import HandS.Flow
import HandS.TupMul
import HandS.SortRule
import HandS.RaiseMore
import HandS.Conv
import HandS.SetFor
import HandS.Strs
import HandS.Words
import KE.KNestM
import HandS.HotCalls
import HandS.ExcIs
import HandS.Text
import PyProof.Rows.RegCapped
import PyProof.Rows.KernelRfl
import PySem.Challenge.RW_coinmaster_k20_whole_periods_to_a_goal
set_option Elab.async false
set_option linter.all false
set_option maxRecDepth 100000
set_option maxHeartbeats 8000000
/-! # PX: plain data, and what a small Python makes of it, as a Lean function -/
namespace PX
open PySem
/-- plain data; own: a list that one slot alone holds; scr: the script; cup: the one list that all draws share; fn: a def -/
inductive D where
  | non | bl (b : Bool) | int (i : Int) | str (x : Str)
  | tup (ds : List D) | lst (ds : List D) | own (ds : List D)
  | scr (l : List Int) | cup | fn (j : Nat)
deriving Inhabited
abbrev Env := List (Option D)
/-- what the shared list holds, once it is made -/
abbrev C := Option (Int × Int)
/-- an exception: its class, its numbers -/
structure Xn where
  cls : Nat
  args : List Int
inductive R (α : Type) where
  | ok (a : α) (c : C)
  | ex (x : Xn) (c : C)
  | no
def R.bind {α β : Type} (r : R α) (f : α → C → R β) : R β := match r with
  | .ok a c => f a c
  | .ex x c => .ex x c
  | .no => .no
/-- most items of a list -/
def szl : Nat := 16777216
def norm : D → D
  | .own ds => .lst ds
  | d => d
inductive Bop where
  | add | sub | mul | fdiv | mod | pow
deriving DecidableEq
inductive Cop where
  | lt | le | gt | ge | eq | ne | is | isnot | isin | notin
deriving DecidableEq
/-- built-ins of one argument -/
inductive B1 where
  | len | abs | int | sum | all | any | tuple | list | sorted | min | max | str
deriving DecidableEq
inductive B2 where
  | min | max
deriving DecidableEq
inductive Ty where
  | int | bool | tuple | str | list
deriving DecidableEq
/-- fused built-ins: x[::-1], sorted(set(x)), list(range(x)), tuple(range(x)) -/
inductive P1 where
  | rev | sset | lrng | trng
deriving DecidableEq
/-- list(range(x, y)), tuple(range(x, y)) -/
inductive P2 where
  | lrng | trng
deriving DecidableEq
/-- a target -/
inductive Tg where
  | n (i : Nat)
  | t (l : List Tg)
inductive E where
  | v (i : Nat) | vb (i : Nat)
  | int (n : Int) | bl (b : Bool) | non | str (x : Str)
  | gl (j : Nat)
  | fn (j : Nat)
  | bin (o : Bop) (a b : E) | neg (a : E)
  | cmp (o : Cop) (a b : E) | chain (o p : Cop) (a b c : E) | chain3 (o p q : Cop) (a b c d : E)
  | p1 (o : P1) (a : E) | p2 (o : P2) (a b : E)
  | and (es : List E) | or (es : List E) | not (a : E)
  | ife (t a b : E)
  | tup (es : List E) | lst (es : List E)
  | ix (a b : E)
  | sl (a lo hi : E) | nop
  | call (j : Nat) (es : List E) | callv (i : Nat) (es : List E)
  | b1 (f : B1) (a : E) | b2 (f : B2) (a b : E)
  | isi (a : E) (t : Ty)
  | lc (elt : E) (tg : Tg) (it : E) (cond : List E) (own : List Nat)
  | itr (a : E) | rng1 (a : E) | rng2 (a b : E) | zip2 (a b : E) | enum (a : E)
  | flt (f : Nat) (a : E)
inductive S where
  | asg (i : Nat) (e : E)
  | tas (t : Tg) (e : E)
  | par (is : List Nat) (es : List E)
  | parO (i : Nat) (e : E) (js : List Nat) (es : List E)
  | put (i : Nat) (k e : E)
  | app (i : Nat) (e : E)
  | ret (e : E) | ret0
  | ife (t : E) (a b : List S)
  | fr (t : Tg) (it : E) (b : List S)
  | fz (is : List Nat) (s : S)
  | wh (t : E) (b : List S)
  | rs (cls : Nat)
  | rse (cls : Nat) (e : E)
  | ex (e : E)
  | aug (i : Nat) (o : Bop) (e : E)
  | pass | brk | cont
structure Fn where
  np : Nat
  ns : Nat
  body : List S
/-- what a def that tries a call makes of the call's end -/
structure Flt where
  good : D
  bad : Xn → Option D
structure Tab where
  funs : List Fn
  flts : List Flt
  consts : List D
  wf : Nat

/-! ## values -/
def truth : D → Option Bool
  | .non => some false
  | .bl b => some b
  | .int i => some (i != 0)
  | .str x => if x.length ≤ szl then some ((x.length : Int) != 0) else none
  | .tup ds => some !ds.isEmpty
  | .lst ds => some !ds.isEmpty
  | .own ds => some !ds.isEmpty
  | .scr l => some !l.isEmpty
  | _ => none
mutual
def pd : D → Option PyData
  | .non => some .none
  | .bl b => some (.bool b)
  | .int i => some (.int i)
  | .str x => some (.str x)
  | .tup ds => (pds ds).map .tuple
  | .lst ds => (pds ds).map .list
  | .own ds => (pds ds).map .list
  | .scr _ => none
  | .cup => none
  | .fn _ => none
def pds : List D → Option (List PyData)
  | [] => some []
  | d :: ds => match pd d, pds ds with
    | some x, some xs => some (x :: xs)
    | _, _ => none
end
def deq (x y : D) : Option Bool := match pd x, pd y with
  | some a, some b => if SeqAt.shaped a && SeqAt.shaped b then some (PyData.eqv a b) else none
  | _, _ => none
/-- scalars that == tells apart by value, of one kind -/
def flat : D → Bool
  | .non => true | .bl _ => true | .int _ => true | .str _ => true
  | _ => false
def feq : D → D → Bool
  | .non, .non => true
  | .bl a, .bl b => a == b
  | .bl a, .int b => (if a then 1 else 0) == b
  | .int a, .bl b => a == (if b then 1 else 0)
  | .int a, .int b => a == b
  | .str a, .str b => a == b
  | _, _ => false
def items : D → Option (List D)
  | .tup ds => some ds
  | .lst ds => some ds
  | .own ds => some ds
  | .scr l => some (l.map .int)
  | _ => none
def intsD : List D → Option (List Int)
  | [] => some []
  | .int i :: r => (intsD r).map (i :: ·)
  | _ :: _ => none
def boolsD : List D → Option (List Bool)
  | [] => some []
  | .bl i :: r => (boolsD r).map (i :: ·)
  | _ :: _ => none
def mulOk (i j : Int) : Bool := decide (-(2 ^ 64) < i ∧ i < 2 ^ 64) || decide (-(2 ^ 64) < j ∧ j < 2 ^ 64) || (decide (i.natAbs < 2 ^ 400000) && decide (j.natAbs < 2 ^ 400000))
/-- a list that may be joined -/
def lsts : D → Option (List D)
  | .lst ds => some ds
  | .own ds => some ds
  | _ => none
def addv (x y : D) : Option D := match x with
  | .int i => match y with | .int j => some (.int (i + j)) | _ => none
  | .tup xs => match y with | .tup ys => (if xs.length + ys.length ≤ szl then some (.tup (xs ++ ys)) else none) | _ => none
  | .str a => match y with | .str b => (if a.length + b.length ≤ szl then some (.str (a ++ b)) else none) | _ => none
  | x => match lsts x with
    | some xs => match lsts y with
      | some ys => if xs.length + ys.length ≤ szl then some (.own (xs ++ ys)) else none
      | none => none
    | none => none
def mulv (x y : D) : Option D := match y with
  | .int j => match x with
    | .int i => if mulOk i j then some (.int (i * j)) else none
    | .tup xs => if 2 ≤ j ∧ j ≤ 1000 ∧ xs.length ≤ 1000 ∧ xs.isEmpty = false then some (.tup (List.replicate j.toNat xs).flatten) else none
    | x => match lsts x with
      | some xs => if j < 2 ^ 62 ∧ -(2 ^ 62) < j ∧ xs.length * j.toNat ≤ szl then some (.own (List.replicate j.toNat xs).flatten) else none
      | none => none
  | _ => none
def subv (x y : D) : Option D := match x with
  | .int i => match y with | .int j => some (.int (i - j)) | _ => none
  | _ => none
def fdivv (x y : D) : Option D := match x with
  | .int i => match y with | .int j => (if 0 < j ∧ (j.natAbs < 2 ^ 9000 ∨ i.natAbs < 2 ^ 4000 * j.natAbs) then some (.int (i / j)) else none) | _ => none
  | _ => none
def modv (x y : D) : Option D := match x with
  | .int i => match y with | .int j => (if 0 < j then some (.int (i % j)) else none) | _ => none
  | _ => none
def powv (x y : D) : Option D := match x with
  | .int i => match y with | .int j => (if 0 ≤ j ∧ j ≤ 1000000 ∧ i.natAbs < 2 ^ 64 then some (.int (i ^ j.toNat)) else none) | _ => none
  | _ => none
def binv (o : Bop) (x y : D) : Option D := match o with
  | .add => addv x y
  | .sub => subv x y
  | .mul => mulv x y
  | .fdiv => fdivv x y
  | .mod => modv x y
  | .pow => powv x y
def ltv (x y : D) : Option Bool := match x with
  | .int i => match y with | .int j => some (decide (i < j)) | _ => none
  | _ => none
def lev (x y : D) : Option Bool := match x with
  | .int i => match y with | .int j => some (decide (i ≤ j)) | _ => none
  | _ => none
def isv (x y : D) : Option Bool := match y with
  | .non => match x with | .non => some true | _ => some false
  | .bl b => match x with | .bl a => some (decide (a = b)) | _ => none
  | _ => none
def inv (x y : D) : Option Bool := match items y with
  | some ys => if flat x && ys.all flat then some (ys.any fun z => feq z x) else none
  | none => none
def cmpv (o : Cop) (x y : D) : Option Bool := match o with
  | .lt => ltv x y
  | .le => lev x y
  | .gt => ltv y x
  | .ge => lev y x
  | .eq => deq x y
  | .ne => (deq x y).map (!·)
  | .is => isv x y
  | .isnot => (isv x y).map (!·)
  | .isin => inv x y
  | .notin => (inv x y).map (!·)
def ixv (x : D) (i : Int) (c : C) : Option D := match x with
  | .cup => match c with
    | some (p, q) => if i = 0 then some (.int p) else if i = 1 then some (.int q) else none
    | none => none
  | .str s => if s.length ≤ szl then (L2.atI s.cps.toList i).map fun k => .str ⟨#[k]⟩ else none
  | x => match items x with
    | some ds => (L2.atI ds i).map norm
    | none => none
def cut {α : Type} (xs : List α) (lo hi : Option Int) : List α := (xs.drop (HT.sIx xs.length 0 lo)).take (HT.sIx xs.length xs.length hi - HT.sIx xs.length 0 lo)
def slv (x : D) (lo hi : Option Int) : Option D := match x with
  | .tup xs => some (.tup (cut xs lo hi))
  | .lst xs => some (.own (cut xs lo hi))
  | .own xs => some (.own (cut xs lo hi))
  | _ => none
def insI (x : Int) : List Int → List Int
  | [] => [x]
  | y :: r => if x ≤ y then x :: y :: r else y :: insI x r
def sortI : List Int → List Int
  | [] => []
  | x :: r => insI x (sortI r)
def dedI : List Int → List Int
  | [] => []
  | x :: r => if x ∈ r then dedI r else x :: dedI r
def pairsD : List D → Option (List (Int × Int))
  | [] => some []
  | .tup [.int i, .int j] :: r => (pairsD r).map ((i, j) :: ·)
  | _ :: _ => none
def leP (x y : Int × Int) : Bool := decide (x.1 < y.1 ∨ (x.1 = y.1 ∧ x.2 ≤ y.2))
def insP (x : Int × Int) : List (Int × Int) → List (Int × Int)
  | [] => [x]
  | y :: r => if leP x y then x :: y :: r else y :: insP x r
def sortP : List (Int × Int) → List (Int × Int)
  | [] => []
  | x :: r => insP x (sortP r)
def pairD (p : Int × Int) : D := .tup [.int p.1, .int p.2]
def leastI : Int → List Int → Int
  | m, [] => m
  | m, x :: r => leastI (if x < m then x else m) r
def mostI : Int → List Int → Int
  | m, [] => m
  | m, x :: r => mostI (if m < x then x else m) r
def b1v (f : B1) (x : D) : Option D := match f with
  | .len => match x with
    | .str s => if s.length ≤ szl then some (.int s.length) else none
    | x => (items x).map fun ds => .int ds.length
  | .abs => match x with | .int i => some (.int (if i < 0 then -i else i)) | _ => none
  | .int => match x with | .int i => some (.int i) | .bl b => some (.int (if b then 1 else 0)) | _ => none
  | .sum => match x with
    | .tup ds => none
    | x => match items x with | some ds => (intsD ds).map fun l => .int l.sum | none => none
  | .all => match x with
    | .tup ds => none
    | x => match items x with | some ds => (boolsD ds).map fun l => .bl (l.all id) | none => none
  | .any => match x with
    | .tup ds => none
    | x => match items x with | some ds => (boolsD ds).map fun l => .bl (l.any id) | none => none
  | .tuple => (items x).map .tup
  | .list => (items x).map .own
  | .sorted => match x with
    | .tup ds => none
    | x => match items x with | some ds => (match intsD ds with | some l => some (.own ((sortI l).map .int)) | none => (match pairsD ds with | some l => some (.own ((sortP l).map pairD)) | none => none)) | none => none
  | .min => match x with
    | .tup ds => none
    | x => match items x with | some ds => (match intsD ds with | some (m :: l) => some (.int (leastI m l)) | _ => none) | none => none
  | .max => match x with
    | .tup ds => none
    | x => match items x with | some ds => (match intsD ds with | some (m :: l) => some (.int (mostI m l)) | _ => none) | none => none
  | .str => match x with
    | .str z => some (.str z)
    | .int i => if i.natAbs.log2 < 1920 then some (.str (PySem.Str.ofString (toString i))) else none
    | _ => none
def b2v (f : B2) (x y : D) : Option D := match f, x, y with
  | .min, .int i, .int j => some (.int (if j < i then j else i))
  | .max, .int i, .int j => some (.int (if j > i then j else i))
  | _, _, _ => none
/-- isinstance(x, t) -/
def isiv (x : D) (t : Ty) : Option Bool := match x, t with
  | .non, _ => some false
  | .bl _, .int => some true | .bl _, .bool => some true | .bl _, _ => some false
  | .int _, .int => some true | .int _, _ => some false
  | .str _, .str => some true | .str _, _ => some false
  | .tup _, .tuple => some true | .tup _, _ => some false
  | .lst _, .list => some true | .lst _, _ => some false
  | .own _, .list => some true | .own _, _ => some false
  | _, _ => none
def isTup : D → Bool
  | .tup _ => true
  | _ => false
mutual
def tgt : Tg → D → Env → Option Env
  | .n i, d, env => some (env.set i (some (norm d)))
  | .t l, d, env => match d with
    | .tup ds => tgts l ds env
    | _ => none
def tgts : List Tg → List D → Env → Option Env
  | [], [], env => some env
  | t :: l, d :: ds, env => match tgt t d env with
    | some e2 => tgts l ds e2
    | none => none
  | _, _, _ => none
end
def wipes (env : Env) : List Nat → Env
  | [] => env
  | v :: vs => (wipes env vs).set v none

/-- lists of one's own are forgotten -/
def ownless (env : Env) : Env := env.map fun o => match o with
  | some (.own _) => none
  | o => o
/-- the slot holds no list of its own -/
def noOwn (env : Env) (i : Nat) : Bool := match env[i]? with
  | some (some (.own _)) => false
  | _ => true

/-! ## expressions -/
abbrev Cl := Nat → List D → C → R D
def lift {α : Type} (o : Option α) (c : C) : R α := match o with
  | some a => .ok a c
  | none => .no
def rngI (lo : Int) (n : Nat) : List D := (List.range n).map fun (k : Nat) => D.int (lo + (k : Int))
def rngv1 (x : D) : Option (List D) := match x with
  | .int n => if -(2 ^ 62) ≤ n ∧ n < 2 ^ 62 then some (rngI 0 n.toNat) else none
  | _ => none
def rngv2 (x y : D) : Option (List D) := match x with
  | .int m => match y with
    | .int n => if -(2 ^ 62) ≤ m ∧ m < 2 ^ 62 ∧ -(2 ^ 62) ≤ n ∧ n < 2 ^ 62 then some (rngI m (n - m).toNat) else none
    | _ => none
  | _ => none
def p1v (o : P1) (x : D) : Option D := match o with
  | .rev => match x with
    | .tup xs => some (.tup xs.reverse)
    | .lst xs => some (.own xs.reverse)
    | .own xs => some (.own xs.reverse)
    | _ => none
  | .sset => match x with
    | .tup _ => none
    | x => match items x with | some ds => (match intsD ds with | some l => if l.length < 64 then some (.own ((sortI (dedI l)).map .int)) else none | none => none) | none => none
  | .lrng => match x with
    | .int n => if n < 1000000 ∧ -1000000 < n then some (.own (rngI 0 n.toNat)) else none
    | _ => none
  | .trng => match x with
    | .int n => if n < 1000000 ∧ -1000000 < n then some (.tup (rngI 0 n.toNat)) else none
    | _ => none
def p2v (o : P2) (x y : D) : Option D := match x, y with
  | .int m, .int n => if n < 1000000 ∧ -1000000 < n ∧ m < 1000000 ∧ -1000000 < m then (match o with
    | .lrng => some (.own (rngI m (n - m).toNat))
    | .trng => some (.tup (rngI m (n - m).toNat))) else none
  | _, _ => none
def zipv (x y : D) : Option (List D) := match items x with
  | some xs => match items y with
    | some ys => if isTup x == isTup y then some (List.zipWith (fun p q => .tup [norm p, norm q]) xs ys) else none
    | none => none
  | none => none
def enumv (x : D) : Option (List D) := match items x with
  | some xs => if isTup x then none else some (List.zipWith (fun p q => .tup [p, norm q]) (rngI 0 xs.length) xs)
  | none => none
/-- a part of a slice -/
def partOf : D → Option (Option Int)
  | .int i => some (some i)
  | _ => none
/-- the items of a comprehension, one after another; nothing may be raised within -/
def lcGo (f : D → C → R (Option D)) : List D → List D → C → R D
  | [], acc, c => .ok (.own acc) c
  | x :: xs, acc, c => match f x c with
    | .ok (some y) c2 => if acc.length < szl then lcGo f xs (acc ++ [norm y]) c2 else .no
    | .ok none c2 => lcGo f xs acc c2
    | _ => .no
section
variable (T : Tab) (cl : Cl)
mutual
def ev : E → Env → C → R D
  | .v i, env, c => match env[i]? with
    | some (some (.own _)) => .no
    | some (some d) => .ok d c
    | _ => .no
  | .vb i, env, c => match env[i]? with
    | some (some d) => .ok (norm d) c
    | _ => .no
  | .int n, _, c => .ok (.int n) c
  | .bl b, _, c => .ok (.bl b) c
  | .non, _, c => .ok .non c
  | .str x, _, c => .ok (.str x) c
  | .gl j, _, c => lift T.consts[j]? c
  | .fn j, _, c => .ok (.fn j) c
  | .bin o a b, env, c => (ev a env c).bind fun x c => (ev b env c).bind fun y c => lift (binv o x y) c
  | .neg a, env, c => (ev a env c).bind fun x c => match x with | .int i => .ok (.int (-i)) c | _ => .no
  | .cmp o a b, env, c => (ev a env c).bind fun x c => (ev b env c).bind fun y c => lift ((cmpv o x y).map .bl) c
  | .chain o p a b d, env, c => (ev a env c).bind fun x c => (ev b env c).bind fun y c => match cmpv o x y with
    | some true => (ev d env c).bind fun z c => lift ((cmpv p y z).map .bl) c
    | some false => .ok (.bl false) c
    | none => .no
  | .chain3 o p q a b d e, env, c => (ev a env c).bind fun x c => (ev b env c).bind fun y c => match cmpv o x y with
    | some true => (ev d env c).bind fun z c => match cmpv p y z with
      | some true => (ev e env c).bind fun u c => lift ((cmpv q z u).map .bl) c
      | some false => .ok (.bl false) c
      | none => .no
    | some false => .ok (.bl false) c
    | none => .no
  | .p1 o a, env, c => (ev a env c).bind fun x c => lift (p1v o x) c
  | .p2 o a b, env, c => (ev a env c).bind fun x c => (ev b env c).bind fun y c => lift (p2v o x y) c
  | .and es, env, c => evand es env c
  | .or es, env, c => evor es env c
  | .not a, env, c => (ev a env c).bind fun x c => lift ((truth x).map fun b => .bl !b) c
  | .ife t a b, env, c => (evt t env c).bind fun t c => if t then ev a env c else ev b env c
  | .tup es, env, c => (evs es env c).bind fun ds c => if ds.length ≤ szl then .ok (.tup (ds.map norm)) c else .no
  | .lst es, env, c => (evs es env c).bind fun ds c => if ds.length ≤ szl then .ok (.own (ds.map norm)) c else .no
  | .ix a b, env, c => (ev a env c).bind fun x c => (ev b env c).bind fun y c => match y with
    | .int i => lift (ixv x i c) c
    | _ => .no
  | .sl a lo hi, env, c => (ev a env c).bind fun x c => (evo lo env c).bind fun l c => (evo hi env c).bind fun h c => lift (slv x l h) c
  | .nop, _, _ => .no
  | .call j es, env, c => (evs es env c).bind fun ds c => cl j (ds.map norm) c
  | .callv i es, env, c => match env[i]? with
    | some (some (.fn j)) => (evs es env c).bind fun ds c => cl j (ds.map norm) c
    | _ => .no
  | .b1 f a, env, c => (ev a env c).bind fun x c => lift (b1v f x) c
  | .b2 f a b, env, c => (ev a env c).bind fun x c => (ev b env c).bind fun y c => lift (b2v f x y) c
  | .isi a t, env, c => (ev a env c).bind fun x c => lift ((isiv x t).map .bl) c
  | .lc elt tg it cond own, env, c => (evi it env c).bind fun xs c => if own.all (noOwn env) then
      lcGo (fun x c => match tgt tg x (wipes env own) with
        | some e2 => (evc cond e2 c).bind fun b c => if b then (ev elt e2 c).bind fun y c => .ok (some y) c else .ok none c
        | none => .no) xs [] c
      else .no
  | .itr _, _, _ => .no
  | .rng1 _, _, _ => .no
  | .rng2 _ _, _, _ => .no
  | .zip2 _ _, _, _ => .no
  | .enum _, _, _ => .no
  | .flt f a, env, c => match T.flts[f]? with
    | some F => match ev a (ownless env) c with
      | .ok _ c2 => .ok F.good c2
      | .ex x c2 => lift (F.bad x) c2
      | .no => .no
    | none => .no
/-- as a test -/
def evt : E → Env → C → R Bool
  | .and es, env, c => evtand es env c
  | .or es, env, c => evtor es env c
  | .not a, env, c => (evt a env c).bind fun x c => .ok (!x) c
  | .ife t a b, env, c => (evt t env c).bind fun t c => if t then evt a env c else evt b env c
  | .cmp o a b, env, c => (ev a env c).bind fun x c => (ev b env c).bind fun y c => lift (cmpv o x y) c
  | .chain o p a b d, env, c => (ev a env c).bind fun x c => (ev b env c).bind fun y c => match cmpv o x y with
    | some true => (ev d env c).bind fun z c => lift (cmpv p y z) c
    | some false => .ok false c
    | none => .no
  | .chain3 o p q a b d e, env, c => (ev a env c).bind fun x c => (ev b env c).bind fun y c => match cmpv o x y with
    | some true => (ev d env c).bind fun z c => match cmpv p y z with
      | some true => (ev e env c).bind fun u c => lift (cmpv q z u) c
      | some false => .ok false c
      | none => .no
    | some false => .ok false c
    | none => .no
  | .v i, env, c => match env[i]? with
    | some (some (.own _)) => .no
    | some (some d) => lift (truth d) c
    | _ => .no
  | .vb i, env, c => match env[i]? with
    | some (some d) => lift (truth d) c
    | _ => .no
  | .bl b, _, c => .ok b c
  | .call j es, env, c => ((evs es env c).bind fun ds c => cl j (ds.map norm) c).bind fun x c => lift (truth x) c
  | .callv i es, env, c => (match env[i]? with
    | some (some (.fn j)) => (evs es env c).bind fun ds c => cl j (ds.map norm) c
    | _ => .no).bind fun x c => lift (truth x) c
  | .b1 f a, env, c => (ev a env c).bind fun x c => (lift (b1v f x) c).bind fun x c => lift (truth x) c
  | .isi a t, env, c => (ev a env c).bind fun x c => lift (isiv x t) c
  | .ix a b, env, c => ((ev a env c).bind fun x c => (ev b env c).bind fun y c => match y with
    | .int i => lift (ixv x i c) c
    | _ => .no).bind fun x c => lift (truth x) c
  | _, _, _ => .no
def evand : List E → Env → C → R D
  | [], _, _ => .no
  | e :: r, env, c => match r with
    | [] => ev e env c
    | _ => (ev e env c).bind fun x c => match x with
      | .bl true => evand r env c
      | .bl false => .ok (.bl false) c
      | _ => .no
def evor : List E → Env → C → R D
  | [], _, _ => .no
  | e :: r, env, c => match r with
    | [] => ev e env c
    | _ => (ev e env c).bind fun x c => match x with
      | .bl false => evor r env c
      | .bl true => .ok (.bl true) c
      | _ => .no
def evtand : List E → Env → C → R Bool
  | [], _, _ => .no
  | e :: r, env, c => match r with
    | [] => evt e env c
    | _ => (evt e env c).bind fun x c => if x then evtand r env c else .ok false c
def evtor : List E → Env → C → R Bool
  | [], _, _ => .no
  | e :: r, env, c => match r with
    | [] => evt e env c
    | _ => (evt e env c).bind fun x c => if x then .ok true c else evtor r env c
def evs : List E → Env → C → R (List D)
  | [], _, c => .ok [] c
  | e :: r, env, c => (ev e env c).bind fun x c => (evs r env c).bind fun xs c => .ok (x :: xs) c
def evc : List E → Env → C → R Bool
  | [], _, c => .ok true c
  | [e], env, c => evt e env c
  | _, _, _ => .no
/-- a part of a slice -/
def evo : E → Env → C → R (Option Int)
  | .nop, _, c => .ok none c
  | .itr a, env, c => (ev a env c).bind fun x c => lift (partOf x) c
  | _, _, _ => .no
/-- what is walked -/
def evi : E → Env → C → R (List D)
  | .itr a, env, c => (ev a env c).bind fun x c => lift ((items x).map fun l => l.map norm) c
  | .rng1 a, env, c => (ev a env c).bind fun x c => lift (rngv1 x) c
  | .rng2 a b, env, c => (ev a env c).bind fun x c => (ev b env c).bind fun y c => lift (rngv2 x y) c
  | .zip2 a b, env, c => (ev a env c).bind fun x c => (ev b env c).bind fun y c => lift (zipv x y) c
  | .enum a, env, c => (ev a env c).bind fun x c => lift (enumv x) c
  | _, _, _ => .no
end
end

/-! ## statements -/
inductive Fl where
  | nx | bk | ct
  | rt (d : D)
/-- a statement's end -/
inductive RS where
  | ok (f : Fl) (env : Env) (c : C)
  | ex (x : Xn) (c : C)
  | no
def RS.of (r : R D) (f : D → C → RS) : RS := match r with
  | .ok a c => f a c
  | .ex x c => .ex x c
  | .no => .no
def RS.ofs {α : Type} (r : R α) (f : α → C → RS) : RS := match r with
  | .ok a c => f a c
  | .ex x c => .ex x c
  | .no => .no
def RS.then (r : RS) (f : Env → C → RS) : RS := match r with
  | .ok .nx env c => f env c
  | r => r
/-- behind a loop's turn -/
def RS.turn (r : RS) (f : Env → C → RS) : RS := match r with
  | .ok .nx env c => f env c
  | .ok .ct env c => f env c
  | .ok .bk env c => .ok .nx env c
  | r => r
def forGo (body : D → Env → C → RS) : List D → Env → C → RS
  | [], env, c => .ok .nx env c
  | x :: xs, env, c => (body x env c).turn (forGo body xs)
def whileGo (t : Env → C → R Bool) (body : Env → C → RS) : Nat → Env → C → RS
  | 0, _, _ => .no
  | n + 1, env, c => RS.ofs (t env c) fun b c => if b then (body env c).turn (whileGo t body n) else .ok .nx env c
def setAll : List Nat → List D → Env → Option Env
  | [], [], env => some env
  | i :: r, d :: ds, env => setAll r ds (env.set i (some (norm d)))
  | _, _, _ => none
mutual
/-- no list within -/
def lfree : D → Bool
  | .tup ds => lfrees ds
  | .lst _ => false
  | .own _ => false
  | .scr _ => false
  | .cup => false
  | _ => true
def lfrees : List D → Bool
  | [] => true
  | d :: ds => lfree d && lfrees ds
end
/-- lists that are not written any more -/
def frz (env : Env) : List Nat → Env
  | [] => env
  | i :: r => frz (match env[i]? with
    | some (some (.own ds)) => env.set i (some (.lst ds))
    | _ => env) r
def augv (o : Bop) (x : Int) (y : D) : Option Int := match y with
  | .int y => (match o with | .add => some (x + y) | .sub => some (x - y) | _ => none)
  | _ => none
def hasB (env : Env) (i : Nat) : Bool := match env[i]? with
  | some (some .cup) => true
  | some (some (.own _)) => true
  | _ => false
/-- x[k] = e, by values -/
def putv (env : Env) (c : C) (i : Nat) (k : Int) (y : D) : Option (Env × C) := match env[i]? with
  | some (some .cup) => match c, y with
    | some (p, q), .int z => if k = 0 then some (env, some (z, q)) else if k = 1 then some (env, some (p, z)) else none
    | _, _ => none
  | some (some (.own ds)) => match L2.ixN ds.length k with
    | some j => some (env.set i (some (.own (ds.set j (norm y)))), c)
    | none => none
  | _ => none
section
variable (T : Tab) (cl : Cl)
mutual
def evS : S → Env → C → RS
  | .asg i e, env, c => RS.of (ev T cl e env c) fun d c => .ok .nx (env.set i (some d)) c
  | .tas t e, env, c => RS.of (ev T cl e env c) fun d c => match tgt t d env with
    | some e2 => .ok .nx e2 c
    | none => .no
  | .par is es, env, c => RS.ofs (evs T cl es env c) fun ds c => match setAll is ds env with
    | some e2 => .ok .nx e2 c
    | none => .no
  | .parO i e js es, env, c => RS.of (ev T cl e env c) fun d c => RS.ofs (evs T cl es env c) fun ds c => if ds.all lfree then match setAll js ds (env.set i (some d)) with
      | some e2 => .ok .nx e2 c
      | none => .no
    else .no
  | .put i k e, env, c => RS.of (ev T cl e env c) fun y c => if hasB env i then RS.of (ev T cl k env c) fun k c => match k with
    | .int k => match putv env c i k y with
      | some (e2, c2) => .ok .nx e2 c2
      | none => .no
    | _ => .no
    else .no
  | .app i e, env, c => match env[i]? with
    | some (some (.own ds)) => RS.of (ev T cl e env c) fun y c => if ds.length < szl then .ok .nx (env.set i (some (.own (ds ++ [norm y])))) c else .no
    | _ => .no
  | .ret e, env, c => match e with
    | .vb i => match env[i]? with
      | some (some d) => .ok (.rt d) env c
      | _ => .no
    | e => RS.of (ev T cl e env c) fun d c => .ok (.rt d) env c
  | .ret0, env, c => .ok (.rt .non) env c
  | .ife t a b, env, c => RS.ofs (evt T cl t env c) fun b' c => if b' then evSs a env c else evSs b env c
  | .fr t it b, env, c => RS.ofs (evi T cl it env c) fun xs c => forGo (fun x env c => match tgt t x env with
      | some e2 => evSs b e2 c
      | none => .no) xs env c
  | .fz is s, env, c => evS s (frz env is) c
  | .wh t b, env, c => whileGo (fun env c => evt T cl t env c) (fun env c => evSs b env c) T.wf env c
  | .rs k, _, c => .ex ⟨k, []⟩ c
  | .rse k e, env, c => RS.of (ev T cl e env c) fun _ c => .ex ⟨k, []⟩ c
  | .ex e, env, c => RS.of (ev T cl e env c) fun _ c => .ok .nx env c
  | .aug i o e, env, c => match env[i]? with
    | some (some (.int x)) => RS.of (ev T cl e env c) fun y c => match augv o x y with
      | some z => .ok .nx (env.set i (some (.int z))) c
      | none => .no
    | _ => .no
  | .pass, env, c => .ok .nx env c
  | .brk, env, c => .ok .bk env c
  | .cont, env, c => .ok .ct env c
def evSs : List S → Env → C → RS
  | [], env, c => .ok .nx env c
  | s :: r, env, c => (evS s env c).then (evSs r)
end
end
/-- a def's end -/
def RS.out : RS → R D
  | .ok (.rt d) _ c => .ok d c
  | .ok .nx _ c => .ok .non c
  | .ok _ _ _ => .no
  | .ex x c => .ex x c
  | .no => .no
def entry (f : Fn) (ds : List D) : Env := ds.map some ++ List.replicate (f.ns - ds.length) none
/-- a def's call, by the calls one level deeper -/
def callBy (T : Tab) (cl : Cl) : Cl := fun j ds c => match T.funs[j]? with
  | some f => if ds.length = f.np then (evSs T cl f.body (entry f ds) c).out else .no
  | none => .no
def run (T : Tab) : Nat → Cl
  | 0 => fun _ _ _ => .no
  | k + 1 => callBy T (run T k)
end PX

/-! # PX: how plain data lies in memory -/
namespace PX
open PySem PySem.Spec PyProof.Rows
open L2 (V HO Hp upd SqT SqL Rd TE TT TA TS TI TG Cx PE PT PA PS PSs PI PG Inv upd_same upd_ne)

abbrev Sl := L2.St
/-- the program's own part: defs, tables of code, classes of exceptions and their fields -/
structure Gs where
  K : PySem.W.Frag
  fa : Nat → Option Addr
  T : List (Addr × Str)
  xa : Nat → Option Value
  xf : Nat → List Str
/-- the surroundings of a body: the shared list, places that are others', the heap at the entry, what is wanted of exceptions -/
structure Gx extends Gs where
  ca : Option Addr
  O : Addr → Prop
  H0 : Hp
  E : L2.XK

mutual
inductive Rp (K : PySem.W.Frag) (fa : Nat → Option Addr) (ca : Option Addr) : (Addr → Prop) → Hp → V → D → Prop
  | non {A : Addr → Prop} {H : Hp} : Rp K fa ca A H .non .non
  | bl {A : Addr → Prop} {H : Hp} (b : Bool) : Rp K fa ca A H (.bl b) (.bl b)
  | int {A : Addr → Prop} {H : Hp} (i : Int) : Rp K fa ca A H (.int i) (.int i)
  | str {A : Addr → Prop} {H : Hp} (x : Str) : Rp K fa ca A H (.str x) (.str x)
  | tup {A : Addr → Prop} {H : Hp} {a : Addr} {vs : List V} {ds : List D} : SqT K H a vs → Rps K fa ca A H vs ds → Rp K fa ca A H (.ref a) (.tup ds)
  | lst {A : Addr → Prop} {H : Hp} {a : Addr} {vs : List V} {ds : List D} : H a = some (.lst vs) → ¬ A a → Rps K fa ca A H vs ds → Rp K fa ca A H (.ref a) (.lst ds)
  | own {A : Addr → Prop} {H : Hp} {a : Addr} {vs : List V} {ds : List D} : H a = some (.lst vs) → ¬ A a → Rps K fa ca (fun b => A b ∨ b = a) H vs ds → Rp K fa ca A H (.ref a) (.own ds)
  | scr {A : Addr → Prop} {H : Hp} {a : Addr} {l : List Int} : (Rd H a (.lst (l.map V.int)) ∧ ¬ A a) ∨ (∀ G : Hp, SqL K G a (l.map V.int)) → Rp K fa ca A H (.ref a) (.scr l)
  | cup {A : Addr → Prop} {H : Hp} {a : Addr} : ca = some a → Rp K fa ca A H (.ref a) .cup
  | fn {A : Addr → Prop} {H : Hp} {a : Addr} {j : Nat} : fa j = some a → Rp K fa ca A H (.ref a) (.fn j)
inductive Rps (K : PySem.W.Frag) (fa : Nat → Option Addr) (ca : Option Addr) : (Addr → Prop) → Hp → List V → List D → Prop
  | nil {A : Addr → Prop} {H : Hp} : Rps K fa ca A H [] []
  | cons {A : Addr → Prop} {H : Hp} {v : V} {vs : List V} {d : D} {ds : List D} : Rp K fa ca A H v d → Rps K fa ca A H vs ds → Rps K fa ca A H (v :: vs) (d :: ds)
end
/-- what is borrowed: its own place may be one that is written -/
inductive Rb (K : PySem.W.Frag) (fa : Nat → Option Addr) (ca : Option Addr) (A : Addr → Prop) (H : Hp) : V → D → Prop
  | of {v : V} {d : D} : Rp K fa ca A H v d → Rb K fa ca A H v d
  | lst {a : Addr} {vs : List V} {ds : List D} : H a = some (.lst vs) → some a ≠ ca → Rps K fa ca A H vs ds → Rb K fa ca A H (.ref a) (.lst ds)

/-- all stays but the shared list and the tables -/
def Stp (ca : Option Addr) (H H' : Hp) : Prop := ∀ b o, H b = some o → (∀ ps, o ≠ .tbl ps) → some b ≠ ca → H' b = some o
/-- nothing is known there -/
def Nw (H : Hp) (a : Addr) : Prop := ∀ o, H a = some o → ∃ ps, o = .tbl ps
def CupOk (ca : Option Addr) (c : C) (H : Hp) : Prop := match ca, c with
  | none, none => True
  | some a, some (p, q) => H a = some (.lst [.int p, .int q])
  | _, _ => False

theorem Stp.refl (ca : Option Addr) (H : Hp) : Stp ca H H := fun _ _ h _ _ => h
theorem Stp.trans {ca : Option Addr} {H H1 H2 : Hp} (a : Stp ca H H1) (b : Stp ca H1 H2) : Stp ca H H2 := fun x o h n m => b x o (a x o h n m) n m
theorem Stp.new {ca : Option Addr} {H : Hp} {p : Addr} {o : HO} (h : H p = none) : Stp ca H (upd H p o) := fun b u e _ _ => by
  rw [upd_ne (L2.ne_of_none e h)]; exact e
theorem Nw.of {H : Hp} {a : Addr} (h : H a = none) : Nw H a := fun o e => by rw [h] at e; cases e
theorem Nw.ne {H : Hp} {a b : Addr} {o : HO} (n : Nw H a) (h : H b = some o) (t : ∀ ps, o ≠ .tbl ps) : b ≠ a := fun e => by
  subst e
  obtain ⟨ps, q⟩ := n o h
  exact t ps q
theorem Nw.back {ca : Option Addr} {H H' : Hp} {a : Addr} (s : Stp ca H H') (hc : some a ≠ ca) (n : Nw H' a) : Nw H a := fun o e => by
  by_cases t : ∃ ps, o = .tbl ps
  · exact t
  · have t' : ∀ ps, o ≠ .tbl ps := fun ps q => t ⟨ps, q⟩
    exact n o (s a o e t' hc)
theorem rd_keep {ca : Option Addr} {H H' : Hp} {a : Addr} {o : HO} (s : Stp ca H H') (hc : some a ≠ ca) (t : ∀ ps, o ≠ .tbl ps) (h : Rd H a o) : Rd H' a o := by
  rcases h with h | ⟨u, h⟩
  · exact .inl (s _ _ h t hc)
  · exact .inr ⟨u, s _ _ h (fun _ q => by cases q) hc⟩
theorem rd_some {H : Hp} {a : Addr} {o : HO} (h : Rd H a o) (t : ∀ ps, o ≠ .tbl ps) : ∃ u, H a = some u ∧ ∀ ps, u ≠ .tbl ps := by
  rcases h with h | ⟨u, h⟩
  · exact ⟨_, h, t⟩
  · exact ⟨_, h, fun _ q => by cases q⟩
theorem tup_nt {xs : List V} : ∀ ps, HO.tup xs ≠ .tbl ps := fun _ q => by cases q
theorem lst_nt {xs : List V} : ∀ ps, HO.lst xs ≠ .tbl ps := fun _ q => by cases q
theorem sqt_keep {K : PySem.W.Frag} {ca : Option Addr} {H H' : Hp} {a : Addr} {xs : List V} (s : Stp ca H H') (hc : ∀ b, ca = some b → ∃ ys, H b = some (.lst ys)) (h : SqT K H a xs) : SqT K H' a xs := by
  rcases h with h | h
  · refine .inl (rd_keep s (fun e => ?_) tup_nt h)
    obtain ⟨ys, q⟩ := hc a e.symm
    rcases h with h | ⟨u, h⟩
    · rw [h] at q; cases q
    · rw [h] at q; cases q
  · exact .inr h

section
variable {K : PySem.W.Frag} {fa : Nat → Option Addr} {ca : Option Addr} {A A' : Addr → Prop} {H H' : Hp}
mutual
theorem Rp.anti {A A' : Addr → Prop} (hA : ∀ a, A' a → A a) : ∀ {v : V} {d : D}, Rp K fa ca A H v d → Rp K fa ca A' H v d
  | _, _, .non => .non
  | _, _, .bl b => .bl b
  | _, _, .int i => .int i
  | _, _, .str x => .str x
  | _, _, .tup h r => .tup h (Rps.anti hA r)
  | _, _, .lst h n r => .lst h (fun z => n (hA _ z)) (Rps.anti hA r)
  | _, _, .own h n r => .own h (fun z => n (hA _ z)) (Rps.anti (fun b z => z.imp (hA b) id) r)
  | _, _, .scr h => .scr (h.imp (fun q => ⟨q.1, fun z => q.2 (hA _ z)⟩) id)
  | _, _, .cup h => .cup h
  | _, _, .fn h => .fn h
theorem Rps.anti {A A' : Addr → Prop} (hA : ∀ a, A' a → A a) : ∀ {vs : List V} {ds : List D}, Rps K fa ca A H vs ds → Rps K fa ca A' H vs ds
  | _, _, .nil => .nil
  | _, _, .cons r t => .cons (Rp.anti hA r) (Rps.anti hA t)
end
/-- carried over; the places that are written (W) lie apart from what is read -/
def StpW (W : Addr → Prop) (H H' : Hp) : Prop := ∀ b o, H b = some o → (∀ ps, o ≠ .tbl ps) → ¬ W b → H' b = some o
mutual
theorem Rp.keepW {A W : Addr → Prop} (s : StpW W H H') (hW : ∀ a, W a → A a ∧ ∃ ys, H a = some (.lst ys)) : ∀ {v : V} {d : D}, Rp K fa ca A H v d → Rp K fa ca A H' v d
  | _, _, .non => .non
  | _, _, .bl b => .bl b
  | _, _, .int i => .int i
  | _, _, .str x => .str x
  | _, _, .tup h r => .tup (by
      rcases h with (h | ⟨u, h⟩) | h
      · exact .inl (.inl (s _ _ h tup_nt fun w => by obtain ⟨_, ys, q⟩ := hW _ w; rw [h] at q; cases q))
      · exact .inl (.inr ⟨u, s _ _ h (fun _ q => by cases q) fun w => by obtain ⟨_, ys, q⟩ := hW _ w; rw [h] at q; cases q⟩)
      · exact .inr h) (Rps.keepW s hW r)
  | _, _, .lst h n r => .lst (s _ _ h lst_nt fun w => n (hW _ w).1) n (Rps.keepW s hW r)
  | _, _, .own h n r => .own (s _ _ h lst_nt fun w => n (hW _ w).1) n (Rps.keepW s (fun a w => ⟨.inl (hW a w).1, (hW a w).2⟩) r)
  | _, _, .scr h => .scr (h.imp (fun ⟨h, n⟩ => ⟨by
      rcases h with h | ⟨u, h⟩
      · exact .inl (s _ _ h lst_nt fun w => n (hW _ w).1)
      · exact .inr ⟨u, s _ _ h (fun _ q => by cases q) fun w => n (hW _ w).1⟩, n⟩) id)
  | _, _, .cup h => .cup h
  | _, _, .fn h => .fn h
theorem Rps.keepW {A W : Addr → Prop} (s : StpW W H H') (hW : ∀ a, W a → A a ∧ ∃ ys, H a = some (.lst ys)) : ∀ {vs : List V} {ds : List D}, Rps K fa ca A H vs ds → Rps K fa ca A H' vs ds
  | _, _, .nil => .nil
  | _, _, .cons r t => .cons (Rp.keepW s hW r) (Rps.keepW s hW t)
end
theorem Stp.w (s : Stp ca H H') : StpW (fun a => ca = some a) H H' := fun b o h t n => s b o h t fun e => n e.symm
theorem Rp.keep (s : Stp ca H H') (hW : ∀ a, ca = some a → A a ∧ ∃ ys, H a = some (.lst ys)) {v : V} {d : D} (r : Rp K fa ca A H v d) : Rp K fa ca A H' v d := r.keepW s.w hW
theorem Rps.keep (s : Stp ca H H') (hW : ∀ a, ca = some a → A a ∧ ∃ ys, H a = some (.lst ys)) {v : List V} {d : List D} (r : Rps K fa ca A H v d) : Rps K fa ca A H' v d := r.keepW s.w hW
mutual
/-- a new place lies apart from all that is known -/
theorem Rp.grow {A : Addr → Prop} {p : Addr} (n : Nw H p) : ∀ {v : V} {d : D}, Rp K fa ca A H v d → Rp K fa ca (fun b => A b ∨ b = p) H v d
  | _, _, .non => .non
  | _, _, .bl b => .bl b
  | _, _, .int i => .int i
  | _, _, .str x => .str x
  | _, _, .tup h r => .tup h (Rps.grow n r)
  | _, _, .lst h q r => .lst h (fun z => by
      rcases z with z | z
      · exact q z
      · exact n.ne h lst_nt z) (Rps.grow n r)
  | _, _, .scr h => .scr (h.imp (fun ⟨h, q⟩ => ⟨h, fun z => by
      rcases z with z | z
      · exact q z
      · obtain ⟨u, hu, ht⟩ := rd_some h lst_nt
        exact n.ne hu ht z⟩) id)
  | _, _, .own h q r => .own h (fun z => by
      rcases z with z | z
      · exact q z
      · exact n.ne h lst_nt z) ((Rps.grow n r).anti fun b z => by
      rcases z with (z | z) | z
      · exact .inl (.inl z)
      · exact .inr z
      · exact .inl (.inr z))
  | _, _, .cup h => .cup h
  | _, _, .fn h => .fn h
theorem Rps.grow {A : Addr → Prop} {p : Addr} (n : Nw H p) : ∀ {vs : List V} {ds : List D}, Rps K fa ca A H vs ds → Rps K fa ca (fun b => A b ∨ b = p) H vs ds
  | _, _, .nil => .nil
  | _, _, .cons r t => .cons (Rp.grow n r) (Rps.grow n t)
end
theorem Rp.norm {v : V} {d : D} (r : Rp K fa ca A H v d) : Rp K fa ca A H v (norm d) := by
  cases r with
  | own h n r => exact .lst h n (r.anti fun b z => .inl z)
  | scr h => exact .scr h
  | non => exact .non
  | bl b => exact .bl b
  | int i => exact .int i
  | str x => exact .str x
  | tup h r => exact .tup h r
  | lst h n r => exact .lst h n r
  | cup h => exact .cup h
  | fn h => exact .fn h
theorem Rps.norm : ∀ {vs : List V} {ds : List D}, Rps K fa ca A H vs ds → Rps K fa ca A H vs (ds.map norm)
  | _, _, .nil => .nil
  | _, _, .cons r t => .cons r.norm (Rps.norm t)
theorem Rps.length : ∀ {vs : List V} {ds : List D}, Rps K fa ca A H vs ds → vs.length = ds.length
  | _, _, .nil => rfl
  | _, _, .cons _ t => by simp [Rps.length t]
theorem Rps.app : ∀ {vs ws : List V} {ds es : List D}, Rps K fa ca A H vs ds → Rps K fa ca A H ws es → Rps K fa ca A H (vs ++ ws) (ds ++ es)
  | _, _, _, _, .nil, s => s
  | _, _, _, _, .cons r t, s => .cons r (Rps.app t s)
theorem Rps.get : ∀ {vs : List V} {ds : List D} {i : Nat} {d : D}, Rps K fa ca A H vs ds → ds[i]? = some d → ∃ v, vs[i]? = some v ∧ Rp K fa ca A H v d
  | _, _, _, _, .nil, e => by simp at e
  | _, _, 0, _, .cons r _, e => by simp at e; subst e; exact ⟨_, rfl, r⟩
  | _, _, i + 1, _, .cons _ t, e => by
    obtain ⟨u, h1, h2⟩ := Rps.get (i := i) t (by simpa using e)
    exact ⟨u, by simpa using h1, h2⟩
theorem Rps.getV : ∀ {vs : List V} {ds : List D} {i : Nat} {v : V}, Rps K fa ca A H vs ds → vs[i]? = some v → ∃ d, ds[i]? = some d ∧ Rp K fa ca A H v d
  | _, _, _, _, .nil, e => by simp at e
  | _, _, 0, _, .cons r _, e => by simp at e; subst e; exact ⟨_, rfl, r⟩
  | _, _, i + 1, _, .cons _ t, e => by
    obtain ⟨u, h1, h2⟩ := Rps.getV (i := i) t (by simpa using e)
    exact ⟨u, by simpa using h1, h2⟩
theorem Rps.set {v : V} {d : D} (r : Rp K fa ca A H v d) : ∀ {vs : List V} {ds : List D} (i : Nat), Rps K fa ca A H vs ds → Rps K fa ca A H (vs.set i v) (ds.set i d)
  | _, _, _, .nil => .nil
  | _, _, 0, .cons _ t => .cons r t
  | _, _, i + 1, .cons q t => .cons q (Rps.set r i t)
theorem Rps.take : ∀ {vs : List V} {ds : List D} (n : Nat), Rps K fa ca A H vs ds → Rps K fa ca A H (vs.take n) (ds.take n)
  | _, _, 0, _ => .nil
  | _, _, _ + 1, .nil => .nil
  | _, _, n + 1, .cons r t => .cons r (Rps.take n t)
theorem Rps.drop : ∀ {vs : List V} {ds : List D} (n : Nat), Rps K fa ca A H vs ds → Rps K fa ca A H (vs.drop n) (ds.drop n)
  | _, _, 0, r => r
  | _, _, _ + 1, .nil => .nil
  | _, _, n + 1, .cons _ t => Rps.drop n t
theorem Rps.rep {vs : List V} {ds : List D} (h : Rps K fa ca A H vs ds) : ∀ k : Nat, Rps K fa ca A H (List.replicate k vs).flatten (List.replicate k ds).flatten
  | 0 => .nil
  | k + 1 => by rw [List.replicate_succ, List.replicate_succ, List.flatten_cons, List.flatten_cons]; exact h.app (Rps.rep h k)
theorem Rps.ints : ∀ {vs : List V} {ds : List D} {l : List Int}, Rps K fa ca A H vs ds → intsD ds = some l → vs = l.map V.int
  | _, _, l, .nil, e => by simp [intsD] at e; subst e; rfl
  | _, _, l, .cons r t, e => by
    cases r with
    | int i =>
      simp only [intsD, Option.map_eq_some_iff] at e
      obtain ⟨l', e1, e2⟩ := e
      subst e2
      rw [Rps.ints t e1]; rfl
    | _ => simp [intsD] at e
theorem Rps.bools : ∀ {vs : List V} {ds : List D} {l : List Bool}, Rps K fa ca A H vs ds → boolsD ds = some l → vs = l.map V.bl
  | _, _, l, .nil, e => by simp [boolsD] at e; subst e; rfl
  | _, _, l, .cons r t, e => by
    cases r with
    | bl i =>
      simp only [boolsD, Option.map_eq_some_iff] at e
      obtain ⟨l', e1, e2⟩ := e
      subst e2
      rw [Rps.bools t e1]; rfl
    | _ => simp [boolsD] at e
theorem Rps.of_ints : ∀ (l : List Int), Rps K fa ca A H (l.map V.int) (l.map D.int)
  | [] => .nil
  | i :: l => .cons (.int i) (Rps.of_ints l)
theorem Rb.keep (s : Stp ca H H') (hW : ∀ a, ca = some a → A a ∧ ∃ ys, H a = some (.lst ys)) {v : V} {d : D} (r : Rb K fa ca A H v d) : Rb K fa ca A H' v d := by
  cases r with
  | of r => exact .of (r.keep s hW)
  | lst h n r => exact .lst (s _ _ h lst_nt n) n (r.keep s hW)
end
end PX

/-! # PX: states, what an expression's reading asks -/
namespace PX
open PySem PySem.Spec PyProof.Rows
open L2 (V HO Hp upd SqT SqL Rd TE TT TA TS TI TG Cx PE PT PA PS PSs PI PG Inv upd_same upd_ne)

structure Inh (G : Gx) (c : C) (H : Hp) : Prop where
  cup : CupOk G.ca c H
  tab : LamX.Tabs G.T H
  stp : Stp G.ca G.H0 H
  oc : ∀ a, G.ca = some a → G.O a
  ol : ∀ a, G.O a → ∃ ys, H a = some (.lst ys)
def Av (G : Gx) (env : Env) (σ : Sl) : Addr → Prop := fun a => G.O a ∨ ∃ (i : Nat) (ds : List D), env[i]? = some (some (D.own ds)) ∧ σ[i]? = some (some (V.ref a))
structure Rel (G : Gx) (env : Env) (c : C) (σ : Sl) (H : Hp) : Prop where
  inh : Inh G c H
  len : env.length = σ.length
  val : ∀ (i : Nat) (d : D), env[i]? = some (some d) → (∀ ds, d ≠ .own ds) → ∃ v : V, σ[i]? = some (some v) ∧ Rp G.K G.fa G.ca (Av G env σ) H v d
  own : ∀ (i : Nat) (ds : List D), env[i]? = some (some (D.own ds)) → ∃ (a : Addr) (vs : List V), σ[i]? = some (some (V.ref a)) ∧ H a = some (.lst vs) ∧ ¬ G.O a ∧ Nw G.H0 a ∧ Rps G.K G.fa G.ca (Av G env σ) H vs ds
  inj : ∀ (i j : Nat) (ds es : List D) (a : Addr), env[i]? = some (some (.own ds)) → env[j]? = some (some (.own es)) → σ[i]? = some (some (.ref a)) → σ[j]? = some (some (.ref a)) → i = j
/-- how an exception lies -/
def XRp (G : Gs) (x : Xn) (cls : Value) (dd : Option Addr) (H : Hp) : Prop := G.xa x.cls = some cls ∧ ((x.args = [] ∧ dd = none) ∨ x.args ≠ [] ∧ ∃ d, dd = some d ∧ H d = some (.xd (List.zip (G.xf x.cls) (x.args.map V.int))))
def XP (G : Gx) (x : Xn) (c : C) : Prop := ∀ cls dd H', Inh G c H' → XRp G.toGs x cls dd H' → G.E cls dd H'
/-- what is made anew lies at a new place -/
def Fr (H : Hp) (v : V) (d : D) : Prop := ∀ ds a, d = .own ds → v = .ref a → Nw H a
def Post (G : Gx) (nb : Bool) (env : Env) (σ : Sl) (H : Hp) (Q : V → Hp → Prop) : R D → Prop
  | .ok d c => ∀ v H', Rel G env c σ H' → Stp G.ca H H' → Rb G.K G.fa G.ca (Av G env σ) H' v d → (nb = true → Rp G.K G.fa G.ca (Av G env σ) H' v d) → Fr H v d → Q v H'
  | .ex x c => XP G x c
  | .no => False
def tEv (G : Gx) (nb : Bool) (f : Env → C → R D) : TE := fun σ H Q => ∃ env c, Rel G env c σ H ∧ Post G nb env σ H Q (f env c)
/-- the same of a test, of lists, of parts -/
def PostB {α : Type} (G : Gx) (env : Env) (σ : Sl) (H : Hp) (Q : α → Hp → Prop) : R α → Prop
  | .ok d c => ∀ H', Rel G env c σ H' → Stp G.ca H H' → Q d H'
  | .ex x c => XP G x c
  | .no => False
def tEvT (G : Gx) (f : Env → C → R Bool) : TT := fun σ H Q => ∃ env c, Rel G env c σ H ∧ PostB G env σ H Q (f env c)
def PostL (G : Gx) (env : Env) (σ : Sl) (H : Hp) (Q : List V → Hp → Prop) : R (List D) → Prop
  | .ok ds c => ∀ vs H', Rel G env c σ H' → Stp G.ca H H' → Rps G.K G.fa G.ca (Av G env σ) H' vs (ds.map norm) → Q vs H'
  | .ex x c => XP G x c
  | .no => False
def tEvs (G : Gx) (f : Env → C → R (List D)) : TA := fun σ H Q => ∃ env c, Rel G env c σ H ∧ PostL G env σ H Q (f env c)

section
variable {G : Gx} {env : Env} {c c' : C} {σ : Sl} {H H' : Hp}
theorem CupOk.lst {ca : Option Addr} {c : C} {H : Hp} (h : CupOk ca c H) : ∀ a, ca = some a → ∃ ys, H a = some (.lst ys) := fun a e => by
  subst e
  cases c with
  | none => exact h.elim
  | some p => exact ⟨_, h⟩
theorem Inh.w (I : Inh G c H) {A : Addr → Prop} (hA : ∀ a, G.O a → A a) : ∀ a, G.ca = some a → A a ∧ ∃ ys, H a = some (.lst ys) := fun a e => ⟨hA a (I.oc a e), I.cup.lst a e⟩
theorem Rel.w (R : Rel G env c σ H) : ∀ a, G.ca = some a → Av G env σ a ∧ ∃ ys, H a = some (.lst ys) := R.inh.w fun _ h => .inl h
theorem Rel.nca (R : Rel G env c σ H) {a : Addr} (h : ¬ G.O a) : some a ≠ G.ca := fun e => h (R.inh.oc a e.symm)
theorem Inh.nca (I : Inh G c H) {p : Addr} (h : H p = none) : some p ≠ G.ca := fun e => by
  obtain ⟨ys, q⟩ := I.cup.lst p e.symm
  rw [h] at q; cases q
theorem Inh.new (I : Inh G c H) {p : Addr} {o : HO} (h : H p = none) : Inh G c (upd H p o) := by
  have s : ∀ b u, H b = some u → upd H p o b = some u := fun b u e => by rw [upd_ne (L2.ne_of_none e h)]; exact e
  refine ⟨?_, I.tab.ext s, I.stp.trans (Stp.new h), I.oc, fun a ha => ?_⟩
  · have q := I.cup
    generalize hca : G.ca = ca at q ⊢
    cases ca with
    | none => cases c with
      | none => trivial
      | some x => exact q
    | some a => cases c with
      | none => exact q
      | some x => exact s _ _ q
  · obtain ⟨u, e⟩ := I.ol a ha
    exact ⟨u, s _ _ e⟩
/-- the state carried over an expression -/
theorem Rel.stp (R : Rel G env c σ H) (s : Stp G.ca H H') (I : Inh G c' H') : Rel G env c' σ H' := by
  refine ⟨I, R.len, fun i d e n => ?_, fun i ds e => ?_, R.inj⟩
  · obtain ⟨v, h1, h2⟩ := R.val i d e n
    exact ⟨v, h1, h2.keep s R.w⟩
  · obtain ⟨a, vs, h1, h2, h3, h4, h5⟩ := R.own i ds e
    exact ⟨a, vs, h1, s _ _ h2 lst_nt (R.nca h3), h3, h4, h5.keep s R.w⟩
theorem Rel.new (R : Rel G env c σ H) {p : Addr} {o : HO} (h : H p = none) : Rel G env c σ (upd H p o) := R.stp (Stp.new h) (R.inh.new h)
theorem Av.lst (R : Rel G env c σ H) : ∀ a, Av G env σ a → ∃ ys, H a = some (.lst ys) := fun a h => by
  rcases h with h | ⟨i, ds, e1, e2⟩
  · exact R.inh.ol a h
  · obtain ⟨b, vs, h1, h2, _⟩ := R.own i ds e1
    rw [e2] at h1
    cases h1
    exact ⟨_, h2⟩
theorem Rel.fresh (R : Rel G env c σ H) {p : Addr} (h : Nw H p) : ¬ Av G env σ p := fun z => by
  obtain ⟨o, e⟩ := Av.lst R p z
  obtain ⟨ps, q⟩ := h _ e
  exact lst_nt ps q
theorem Post.imp {nb nb' : Bool} {Q Q' : V → Hp → Prop} {r : R D} (h : Post G nb env σ H Q r) (hn : nb = true → nb' = true) (hQ : ∀ v H', Q v H' → Q' v H') : Post G nb' env σ H Q' r := by
  cases r with
  | ok d c => exact fun v H' R s rb rp f => hQ _ _ (h v H' R s rb (fun e => rp (hn e)) f)
  | ex x c => exact h
  | no => exact h
end
theorem pe_imp {X : Cx} {e : Expr} {t t' : TE} (h : PE X e t) (k : ∀ σ H Q, t' σ H Q → t σ H Q) : PE X e t' := ⟨fun pins s σ H Q I q => h.run pins s σ H Q I (k σ H Q q)⟩
theorem pt_imp {X : Cx} {e : Expr} {t t' : TT} (h : PT X e t) (k : ∀ σ H Q, t' σ H Q → t σ H Q) : PT X e t' := ⟨fun pins s σ H Q I q => h.run pins s σ H Q I (k σ H Q q)⟩
theorem pa_imp {X : Cx} {e : List Expr} {t t' : TA} (h : PA X e t) (k : ∀ σ H Q, t' σ H Q → t σ H Q) : PA X e t' := ⟨fun pos pins s σ H Q I q => h.run pos pins s σ H Q I (k σ H Q q)⟩
theorem ps_imp {X : Cx} {e : Stmt} {t t' : TS} (h : PS X e t) (k : ∀ D σ H, t' D σ H → t D σ H) : PS X e t' := ⟨fun pins s σ H D I q => h.run pins s σ H D I (k D σ H q)⟩
theorem pss_imp {X : Cx} {e : List Stmt} {t t' : TS} (h : PSs X e t) (k : ∀ D σ H, t' D σ H → t D σ H) : PSs X e t' := ⟨fun pins s σ H D I q => h.run pins s σ H D I (k D σ H q)⟩

/-! ## steps through R.bind -/
section
variable {G : Gx} {env : Env} {c c' : C} {σ : Sl} {H H' : Hp}
theorem rb_post {nb nb' : Bool} {Q Q' : V → Hp → Prop} {r : R D} {g : D → C → R D} (h : Post G nb env σ H Q (r.bind g))
    (k : ∀ d c v H', Rel G env c σ H' → Stp G.ca H H' → Rb G.K G.fa G.ca (Av G env σ) H' v d → (nb' = true → Rp G.K G.fa G.ca (Av G env σ) H' v d) → Fr H v d → Post G nb env σ H Q (g d c) → Q' v H') : Post G nb' env σ H Q' r := by
  cases r with
  | ok d c => exact fun v H' R s rb rp f => k d c v H' R s rb rp f h
  | ex x c => exact h
  | no => exact h
theorem rb_post_t {nb' : Bool} {Q : Bool → Hp → Prop} {Q' : V → Hp → Prop} {r : R D} {g : D → C → R Bool} (h : PostB G env σ H Q (r.bind g))
    (k : ∀ d c v H', Rel G env c σ H' → Stp G.ca H H' → Rb G.K G.fa G.ca (Av G env σ) H' v d → (nb' = true → Rp G.K G.fa G.ca (Av G env σ) H' v d) → Fr H v d → PostB G env σ H Q (g d c) → Q' v H') : Post G nb' env σ H Q' r := by
  cases r with
  | ok d c => exact fun v H' R s rb rp f => k d c v H' R s rb rp f h
  | ex x c => exact h
  | no => exact h
theorem tb_post_t {α : Type} {Q : α → Hp → Prop} {Q' : Bool → Hp → Prop} {r : R Bool} {g : Bool → C → R α} (h : PostB G env σ H Q (r.bind g))
    (k : ∀ d c H', Rel G env c σ H' → Stp G.ca H H' → PostB G env σ H Q (g d c) → Q' d H') : PostB G env σ H Q' r := by
  cases r with
  | ok d c => exact fun H' R s => k d c H' R s h
  | ex x c => exact h
  | no => exact h
theorem tb_post {nb : Bool} {Q : V → Hp → Prop} {Q' : Bool → Hp → Prop} {r : R Bool} {g : Bool → C → R D} (h : Post G nb env σ H Q (r.bind g))
    (k : ∀ d c H', Rel G env c σ H' → Stp G.ca H H' → Post G nb env σ H Q (g d c) → Q' d H') : PostB G env σ H Q' r := by
  cases r with
  | ok d c => exact fun H' R s => k d c H' R s h
  | ex x c => exact h
  | no => exact h
theorem lb_post {nb : Bool} {Q : V → Hp → Prop} {Q' : List V → Hp → Prop} {r : R (List D)} {g : List D → C → R D} (h : Post G nb env σ H Q (r.bind g))
    (k : ∀ ds c vs H', Rel G env c σ H' → Stp G.ca H H' → Rps G.K G.fa G.ca (Av G env σ) H' vs (ds.map norm) → Post G nb env σ H Q (g ds c) → Q' vs H') : PostL G env σ H Q' r := by
  cases r with
  | ok d c => exact fun v H' R s rp => k d c v H' R s rp h
  | ex x c => exact h
  | no => exact h
/-- the heap ahead is an elder one -/
theorem Post.back {nb : Bool} {Q : V → Hp → Prop} {r : R D} {H1 : Hp} (R1 : Rel G env c σ H1) (s : Stp G.ca H H1) (h : Post G nb env σ H Q r) : Post G nb env σ H1 Q r := by
  cases r with
  | ok d c =>
    intro v H' R' s' rb rp f
    refine h v H' R' (s.trans s') rb rp fun ds a e1 e2 => ?_
    subst e1 e2
    have n : some a ≠ G.ca := fun e => by
      obtain ⟨ha, _⟩ := R'.w a e.symm
      cases rb with
      | of q => cases q with
        | own _ nA _ => exact nA ha
    exact (f ds a rfl rfl).back s n
  | ex x c => exact h
  | no => exact h
theorem PostB.back {α : Type} {Q : α → Hp → Prop} {r : R α} {H1 : Hp} (s : Stp G.ca H H1) (h : PostB G env σ H Q r) : PostB G env σ H1 Q r := by
  cases r with
  | ok d c => exact fun H' R' s' => h H' R' (s.trans s')
  | ex x c => exact h
  | no => exact h
theorem PostL.back {Q : List V → Hp → Prop} {r : R (List D)} {H1 : Hp} (s : Stp G.ca H H1) (h : PostL G env σ H Q r) : PostL G env σ H1 Q r := by
  cases r with
  | ok d c => exact fun v H' R' s' rp => h v H' R' (s.trans s') rp
  | ex x c => exact h
  | no => exact h
/-- a value that is no list of one's own is handed back -/
theorem Post.give {nb : Bool} {Q : V → Hp → Prop} {d : D} {v : V} (h : Post G nb env σ H Q (.ok d c)) (R : Rel G env c σ H) (r : Rp G.K G.fa G.ca (Av G env σ) H v d) (n : ∀ ds, d ≠ .own ds) : Q v H :=
  h v H R (Stp.refl _ _) (.of r) (fun _ => r) fun ds _ e _ => absurd e (n ds)
/-- a new list -/
theorem Post.newList {nb : Bool} {Q : V → Hp → Prop} {ds : List D} {vs : List V} (h : Post G nb env σ H Q (.ok (.own ds) c)) (R : Rel G env c σ H) (r : Rps G.K G.fa G.ca (Av G env σ) H vs ds) {p : Addr} (hp : H p = none) : Q (.ref p) (upd H p (.lst vs)) := by
  have r' : Rp G.K G.fa G.ca (Av G env σ) (upd H p (.lst vs)) (.ref p) (.own ds) := .own upd_same (R.fresh (Nw.of hp)) ((r.grow (Nw.of hp)).keep (Stp.new hp) fun a e => ⟨.inl (R.w a e).1, (R.w a e).2⟩)
  exact h _ _ (R.new hp) (Stp.new hp) (.of r') (fun _ => r') fun _ a _ e => by cases e; exact Nw.of hp
theorem Post.newTup {nb : Bool} {Q : V → Hp → Prop} {ds : List D} {vs : List V} (h : Post G nb env σ H Q (.ok (.tup ds) c)) (R : Rel G env c σ H) (r : Rps G.K G.fa G.ca (Av G env σ) H vs ds) {p : Addr} (hp : H p = none) : Q (.ref p) (upd H p (.tup vs)) := by
  have r' : Rp G.K G.fa G.ca (Av G env σ) (upd H p (.tup vs)) (.ref p) (.tup ds) := .tup (.inl (.inl upd_same)) (r.keep (Stp.new hp) R.w)
  exact h _ _ (R.new hp) (Stp.new hp) (.of r') (fun _ => r') fun _ _ e _ => by cases e
end
end PX

/-! # PX: operators, names, displays, subscripts, built-ins -/
namespace PX
open PySem PySem.Spec PyProof.Rows
open L2 (V HO Hp upd SqT SqL Rd TE TT TA TS TI TG Cx PE PT PA PS PSs PI PG Inv upd_same upd_ne OpR CallR IxR RelV Vals Room)

theorem szl_eq : szl = sizeLine := by rw [sizeLine_eq]; rfl
/-- the reading of an operation of plain data -/
def rD (G : Gx) (g : D → D → Option D) : L2.R2 := fun x y H Q => ∃ (env : Env) (c : C) (σ : Sl) (dx dy : D) (nb : Bool), Rel G env c σ H ∧ Rb G.K G.fa G.ca (Av G env σ) H x dx ∧ Rb G.K G.fa G.ca (Av G env σ) H y dy ∧ Post G nb env σ H Q (lift (g dx dy) c)
def tOpD (G : Gx) (fa fb : Env → C → R D) (g : D → D → Option D) : Env → C → R D := fun env c => (fa env c).bind fun x c => (fb env c).bind fun y c => lift (g x y) c
section
variable {X : Cx} {G : Gx}
/-- two expressions, then an operation -/
theorem two {na nb n : Bool} {fa fb : Env → C → R D} {g : D → D → Option D} {σ : Sl} {H : Hp} {Q : V → Hp → Prop} (h : tEv G n (tOpD G fa fb g) σ H Q) : L2.tOp (rD G g) (tEv G na fa) (tEv G nb fb) σ H Q := by
  obtain ⟨env, c, R, h⟩ := h
  refine ⟨env, c, R, rb_post h fun d c1 v H1 R1 s1 rb1 _ _ h1 => ⟨env, c1, R1, rb_post (h1.back R1 s1) fun d2 c2 v2 H2 R2 s2 rb2 _ _ h2 => ⟨env, c2, σ, d, d2, n, R2, rb1.keep s2 R1.w, rb2, h2.back R2 s2⟩⟩⟩
theorem se_op {na nb n : Bool} {fa fb : Env → C → R D} {g : D → D → Option D} {a b : Expr} {op : Operator} {pos : Pos} (ho : OpR X (binaryOp op) (rD G g)) (ha : PE X a (tEv G na fa)) (hb : PE X b (tEv G nb fb)) : PE X (.BinOp a op b pos) (tEv G n (tOpD G fa fb g)) :=
  pe_imp (L2.pe_op ho ha hb) fun _ _ _ h => two h
theorem se_cmp {na nb n : Bool} {fa fb : Env → C → R D} {g : D → D → Option D} {a b : Expr} {op : CmpOp} {pos : Pos} (ho : OpR X (compareOp op) (rD G g)) (ha : PE X a (tEv G na fa)) (hb : PE X b (tEv G nb fb)) (hm : behindInMarks op b = false) : PE X (.Compare a [op] [b] pos) (tEv G n (tOpD G fa fb g)) :=
  pe_imp (L2.pe_cmpR ho ha hb hm) fun _ _ _ h => two h

/-! ### what is read -/
theorem rb_int {K fa ca A H v i} (h : Rb K fa ca A H v (.int i)) : v = .int i := by
  cases h with | of h => cases h; rfl
theorem rb_bl {K fa ca A H v i} (h : Rb K fa ca A H v (.bl i)) : v = .bl i := by
  cases h with | of h => cases h; rfl
theorem rb_non {K fa ca A H v} (h : Rb K fa ca A H v .non) : v = .non := by
  cases h with | of h => cases h; rfl
theorem rb_str {K fa ca A H v x} (h : Rb K fa ca A H v (.str x)) : v = .str x := by
  cases h with | of h => cases h; rfl
theorem rb_tup {K fa ca A H v ds} (h : Rb K fa ca A H v (.tup ds)) : ∃ a vs, v = .ref a ∧ SqT K H a vs ∧ Rps K fa ca A H vs ds := by
  cases h with | of h => cases h with | tup h r => exact ⟨_, _, rfl, h, r⟩
theorem rb_lst {K fa ca A H v ds} (h : Rb K fa ca A H v (.lst ds)) : ∃ a vs, v = .ref a ∧ H a = some (.lst vs) ∧ Rps K fa ca A H vs ds := by
  cases h with
  | of h => cases h with | lst h _ r => exact ⟨_, _, rfl, h, r⟩
  | lst h _ r => exact ⟨_, _, rfl, h, r⟩
theorem rb_own {K fa ca A H v ds} (h : Rb K fa ca A H v (.own ds)) : ∃ a vs, v = .ref a ∧ H a = some (.lst vs) ∧ Rps K fa ca A H vs ds := by
  cases h with | of h => cases h with | own h _ r => exact ⟨_, _, rfl, h, r.anti fun _ z => .inl z⟩
theorem rb_scr {K : PySem.W.Frag} {fa ca A H v l} (h : Rb K fa ca A H v (.scr l)) : ∃ a, v = .ref a ∧ SqL K H a (l.map V.int) := by
  cases h with
  | of h =>
    cases h with
    | scr q =>
      refine ⟨_, rfl, ?_⟩
      rcases q with q | q
      · exact Or.inl q.1
      · exact q H
/-- a list or tuple -/
theorem rb_items {K : PySem.W.Frag} {fa ca A H v d ds} (h : Rb K fa ca A H v d) (e : items d = some ds) : ∃ a vs, v = .ref a ∧ Rps K fa ca A H vs ds ∧ ((SqL K H a vs ∧ ∀ es, d ≠ .tup es) ∨ (SqT K H a vs ∧ d = .tup ds)) := by
  cases d with
  | tup es =>
    cases e
    obtain ⟨a, vs, rfl, h, r⟩ := rb_tup h
    exact ⟨a, vs, rfl, r, .inr ⟨h, rfl⟩⟩
  | lst es =>
    cases e
    obtain ⟨a, vs, rfl, h, r⟩ := rb_lst h
    exact ⟨a, vs, rfl, r, .inl ⟨.of h, fun _ z => by cases z⟩⟩
  | own es =>
    cases e
    obtain ⟨a, vs, rfl, h, r⟩ := rb_own h
    exact ⟨a, vs, rfl, r, .inl ⟨.of h, fun _ z => by cases z⟩⟩
  | scr l =>
    cases e
    obtain ⟨a, e1, h1⟩ := rb_scr h
    exact ⟨a, _, e1, Rps.of_ints l, .inl ⟨h1, fun _ z => by cases z⟩⟩
  | _ => cases e
theorem lift_some {α : Type} {o : Option α} {c : C} {P : R α → Prop} (h : P (lift o c)) (hn : ¬ P .no) : ∃ a, o = some a ∧ P (.ok a c) := by
  cases o with
  | none => exact (hn h).elim
  | some a => exact ⟨a, rfl, h⟩
theorem post_lift {nb : Bool} {env : Env} {σ : Sl} {H : Hp} {Q : V → Hp → Prop} {o : Option D} {c : C} (h : Post G nb env σ H Q (lift o c)) : ∃ d, o = some d ∧ Post G nb env σ H Q (.ok d c) := lift_some h fun z => z
theorem nown_int {i : Int} : ∀ ds, D.int i ≠ .own ds := fun _ z => by cases z
theorem nown_bl {i : Bool} : ∀ ds, D.bl i ≠ .own ds := fun _ z => by cases z
theorem nown_str {i : Str} : ∀ ds, D.str i ≠ .own ds := fun _ z => by cases z
theorem nown_tup {i : List D} : ∀ ds, D.tup i ≠ .own ds := fun _ z => by cases z

/-! ### operators on plain data -/
theorem od_int {f : Value → Value → Sem Value} {C' : Int → Int → Prop} {g : Int → Int → Int} {gd : D → D → Option D} (ho : OpR X f (L2.rI C' fun i j => .int (g i j)))
    (hg : ∀ dx dy d, gd dx dy = some d → ∃ i j, dx = .int i ∧ dy = .int j ∧ C' i j ∧ d = .int (g i j)) : OpR X f (rD G gd) := by
  intro pins s σ' H x y v u Q I rx ry h
  obtain ⟨env, c, σ, dx, dy, nb, R, hx, hy, h⟩ := h
  obtain ⟨d, e, h⟩ := post_lift h
  obtain ⟨i, j, rfl, rfl, hc, rfl⟩ := hg _ _ _ e
  exact ho pins s σ' H x y v u Q I rx ry ⟨i, j, rb_int hx, rb_int hy, hc, h.give R (.int _) nown_int⟩
theorem log2_of {n k : Nat} (h : n < 2 ^ k) (h0 : 0 < k) : n.log2 < k := PySem.Flt.log2_lt_of h0 h
/-- two ints -/
theorem i2 {f : D → D → Option D} {k : Int → Int → Option D} {x y d : D} (e : f x y = some d) (h : ∀ x y, f x y = match x with | .int i => (match y with | .int j => k i j | _ => none) | _ => none) : ∃ i j, x = .int i ∧ y = .int j ∧ k i j = some d := by
  rw [h] at e
  cases x <;> first | (cases e; done) | skip
  cases y <;> first | (cases e; done) | skip
  exact ⟨_, _, rfl, rfl, e⟩
theorem ite_some {α : Type} {p : Prop} [Decidable p] {a d : α} (e : (if p then some a else none) = some d) : p ∧ d = a := by
  split at e
  · rename_i h
    exact ⟨h, (Option.some.inj e).symm⟩
  · cases e
theorem o_sub : OpR X (binaryOp .Sub) (rD G subv) := od_int (C' := fun _ _ => True) (fun pins s σ H x y v u Q I rx ry ⟨i, j, a, b, _, q⟩ => L2.op_sub pins s σ H x y v u Q I rx ry ⟨i, j, a, b, q⟩) fun dx dy d e => by
  obtain ⟨i, j, rfl, rfl, e⟩ := i2 (k := fun i j => some (.int (i - j))) e fun _ _ => rfl
  exact ⟨i, j, rfl, rfl, trivial, (Option.some.inj e).symm⟩
theorem noPylong_near {x y : Int} (hy : 0 < y) (h : x.natAbs < 2 ^ 4000 * y.natAbs) : Builtin.divisionGoesByPylong x y = false := by
  have key : (if x == 0 then 0 else x.natAbs.log2 / 30 + 1) ≤ (if y == 0 then 0 else y.natAbs.log2 / 30 + 1) + 150 := by
    by_cases hx : (x == 0) = true
    · rw [if_pos hx]; omega
    · rw [if_neg hx, if_neg (by simp; omega)]
      have y1 : y.natAbs < 2 ^ (y.natAbs.log2 + 1) := Nat.lt_log2_self
      have x1 : x.natAbs < 2 ^ (4000 + (y.natAbs.log2 + 1)) := by
        rw [Nat.pow_add]
        exact Nat.lt_of_lt_of_le h (Nat.mul_le_mul_left _ (Nat.le_of_lt y1))
      have := log2_of x1 (by omega)
      omega
  show (_ && decide ((if x == 0 then 0 else x.natAbs.log2 / 30 + 1) > (if y == 0 then 0 else y.natAbs.log2 / 30 + 1) + 150)) = false
  rw [decide_eq_false (Nat.not_lt.mpr key), Bool.and_false]
theorem op_fdivX : OpR X (binaryOp .FloorDiv) (L2.rI (fun i j => 0 < j ∧ Builtin.divisionGoesByPylong i j = false) fun i j => .int (i / j)) := L2.opI fun i j _ _ _ _ _ hc q => by
  have h1 : (0 : Int) < j := hc.1
  exact floordiv_int (by omega) (by rw [Int.fdiv_eq_ediv_of_nonneg i (by omega)]; exact q) (.inl hc.2)
theorem o_fdiv : OpR X (binaryOp .FloorDiv) (rD G fdivv) := od_int (op_fdivX) fun dx dy d e => by
  obtain ⟨i, j, rfl, rfl, e⟩ := i2 (k := fun i j => if 0 < j ∧ (j.natAbs < 2 ^ 9000 ∨ i.natAbs < 2 ^ 4000 * j.natAbs) then some (.int (i / j)) else none) e fun _ _ => rfl
  obtain ⟨h, rfl⟩ := ite_some e
  refine ⟨i, j, rfl, rfl, ⟨h.1, ?_⟩, rfl⟩
  rcases h.2 with h2 | h2
  · exact PyProof.noPylong_of_log2 (log2_of h2 (by decide))
  · exact noPylong_near h.1 h2
theorem o_mod : OpR X (binaryOp .Mod) (rD G modv) := od_int (L2.op_mod) fun dx dy d e => by
  obtain ⟨i, j, rfl, rfl, e⟩ := i2 (k := fun i j => if 0 < j then some (.int (i % j)) else none) e fun _ _ => rfl
  obtain ⟨h, rfl⟩ := ite_some e
  exact ⟨i, j, rfl, rfl, h, rfl⟩
theorem o_pow : OpR X (binaryOp .Pow) (rD G powv) := od_int (L2.op_pow) fun dx dy d e => by
  obtain ⟨i, j, rfl, rfl, e⟩ := i2 (k := fun i j => if 0 ≤ j ∧ j ≤ 1000000 ∧ i.natAbs < 2 ^ 64 then some (.int (i ^ j.toNat)) else none) e fun _ _ => rfl
  obtain ⟨h, rfl⟩ := ite_some e
  exact ⟨i, j, rfl, rfl, h, rfl⟩
theorem rb_lsts {K : PySem.W.Frag} {fa ca A H v d ds} (h : Rb K fa ca A H v d) (e : lsts d = some ds) : ∃ a vs, v = .ref a ∧ H a = some (.lst vs) ∧ Rps K fa ca A H vs ds := by
  cases d <;> first | (cases e; done) | skip
  · cases e; exact rb_lst h
  · cases e; exact rb_own h
theorem lsts_add {x y d : D} {xs : List D} (e : lsts x = some xs) (h : addv x y = some d) : ∃ ys, lsts y = some ys ∧ xs.length + ys.length ≤ szl ∧ d = .own (xs ++ ys) := by
  have q : addv x y = match lsts x with
    | some xs => match lsts y with
      | some ys => if xs.length + ys.length ≤ szl then some (.own (xs ++ ys)) else none
      | none => none
    | none => none := by cases x <;> first | rfl | cases e
  rw [q, e] at h
  cases e2 : lsts y with
  | none => rw [e2] at h; cases h
  | some ys =>
    rw [e2] at h
    obtain ⟨h1, h2⟩ := ite_some h
    exact ⟨ys, rfl, h1, h2⟩
theorem o_add (hK : X.K = G.K) : OpR X (binaryOp .Add) (rD G addv) := by
  intro pins s σ' H x y v u Q I rx ry h
  obtain ⟨env, c, σ, dx, dy, nb, R, hx, hy, h⟩ := h
  obtain ⟨d, e, h⟩ := post_lift h
  have go : ∀ xs, lsts dx = some xs → wpAny (model X.prog X.w) X.A (binaryOp .Add v u) (L2.EP X pins σ' Q) X.xe s := fun xs e1 => by
    obtain ⟨ys, e2, hz, rfl⟩ := lsts_add e1 e
    obtain ⟨a, vs, rfl, h1, r1⟩ := rb_lsts hx e1
    obtain ⟨b, ws, rfl, h2, r2⟩ := rb_lsts hy e2
    refine L2.op_cat pins s σ' H _ _ v u Q I rx ry ⟨_, _, _, _, rfl, rfl, h1, h2, ?_, fun p hp => h.newList R (r1.app r2) hp⟩
    rw [r1.length, r2.length, ← szl_eq]
    exact hz
  cases dx with
  | int i =>
    cases dy <;> first | (cases e; done) | skip
    cases e
    exact L2.op_add pins s σ' H x y v u Q I rx ry ⟨_, _, rb_int hx, rb_int hy, h.give R (.int _) nown_int⟩
  | str a =>
    cases dy <;> first | (cases e; done) | skip
    obtain ⟨hz, rfl⟩ := ite_some e
    exact L2.op_add_str pins s σ' H x y v u Q I rx ry ⟨_, _, rb_str hx, rb_str hy, by rw [← szl_eq]; exact hz, h.give R (.str _) nown_str⟩
  | tup xs =>
    cases dy <;> first | (cases e; done) | skip
    obtain ⟨hz, rfl⟩ := ite_some e
    obtain ⟨a, vs, rfl, h1, r1⟩ := rb_tup hx
    obtain ⟨b, ws, rfl, h2, r2⟩ := rb_tup hy
    refine L2.op_catA pins s σ' H _ _ v u Q I rx ry ⟨_, _, _, _, rfl, rfl, by rw [hK]; exact h1, by rw [hK]; exact h2, ?_, fun e => ?_, fun _ e => ?_, fun _ _ p hp => h.newTup R (r1.app r2) hp⟩
    · rw [r1.length, r2.length, ← szl_eq]
      exact hz
    · subst e
      cases r1
      exact h.give R (.tup h2 r2) nown_tup
    · subst e
      cases r2
      rw [List.append_nil] at h
      exact h.give R (.tup h1 r1) nown_tup
  | lst xs => exact go xs rfl
  | own xs => exact go xs rfl
  | _ => cases e
theorem mul_ok {i j : Int} (h : mulOk i j = true) : L2.CMul i j ∨ L2.CMulW i j := by
  unfold mulOk at h
  simp only [Bool.or_eq_true, Bool.and_eq_true, decide_eq_true_eq] at h
  rcases h with (h | h) | ⟨h1, h2⟩
  · exact .inl (.inl h)
  · exact .inl (.inr h)
  · exact .inr (L2.wide_mul h1 h2 (by decide) (by decide) (by decide))
theorem lsts_mul {x d : D} {j : Int} {xs : List D} (e : lsts x = some xs) (h : mulv x (.int j) = some d) : (j < 2 ^ 62 ∧ -(2 ^ 62) < j ∧ xs.length * j.toNat ≤ szl) ∧ d = .own (List.replicate j.toNat xs).flatten := by
  have q : mulv x (.int j) = match lsts x with
    | some xs => if j < 2 ^ 62 ∧ -(2 ^ 62) < j ∧ xs.length * j.toNat ≤ szl then some (.own (List.replicate j.toNat xs).flatten) else none
    | none => none := by cases x <;> first | rfl | cases e
  rw [q, e] at h
  exact ite_some h
theorem o_mul (hK : X.K = G.K) : OpR X (binaryOp .Mult) (rD G mulv) := by
  intro pins s σ' H x y v u Q I rx ry h
  obtain ⟨env, c, σ, dx, dy, nb, R, hx, hy, h⟩ := h
  obtain ⟨d, e, h⟩ := post_lift h
  cases dy with
  | int j =>
    have go : ∀ xs, lsts dx = some xs → wpAny (model X.prog X.w) X.A (binaryOp .Mult v u) (L2.EP X pins σ' Q) X.xe s := fun xs e1 => by
      obtain ⟨⟨h1, h2, h3⟩, rfl⟩ := lsts_mul e1 e
      obtain ⟨a, vs, rfl, h4, r1⟩ := rb_lsts hx e1
      refine L2.op_rep pins s σ' H _ _ v u Q I rx ry ⟨_, _, _, rfl, rb_int hy, h4, by omega, by omega, ?_, fun p hp => h.newList R (r1.rep _) hp⟩
      rw [r1.length, ← szl_eq]
      exact h3
    cases dx with
    | int i =>
      obtain ⟨hm, rfl⟩ := ite_some e
      rcases mul_ok hm with hm | hm
      · exact L2.op_mul pins s σ' H x y v u Q I rx ry ⟨_, _, rb_int hx, rb_int hy, hm, h.give R (.int _) nown_int⟩
      · exact L2.op_mulW pins s σ' H x y v u Q I rx ry ⟨_, _, rb_int hx, rb_int hy, hm, h.give R (.int _) nown_int⟩
    | lst xs => exact go xs rfl
    | own xs => exact go xs rfl
    | tup xs =>
      obtain ⟨⟨h1, h2, h3, h4⟩, rfl⟩ := ite_some e
      obtain ⟨a, vs, rfl, hq, r1⟩ := rb_tup hx
      have hl := r1.length
      refine L2.op_repT pins s σ' H _ _ v u Q I rx ry ⟨_, _, _, rfl, rb_int hy, by rw [hK]; exact hq, ?_, h1, h2, by rw [hl]; exact h3, fun p hp => h.newTup R (r1.rep _) hp⟩
      intro z
      rw [z] at hl
      cases xs with
      | nil => cases h4
      | cons _ _ => simp at hl
    | _ => cases e
  | _ => cases dx <;> cases e
/-! ### comparisons -/
def bD (g : D → D → Option Bool) : D → D → Option D := fun x y => (g x y).map .bl
theorem oc_int {f : Value → Value → Sem Value} {g : Int → Int → Bool} {gd : D → D → Option Bool} (ho : OpR X f (L2.rI0 fun i j => .bl (g i j)))
    (hg : ∀ dx dy b, gd dx dy = some b → ∃ i j, dx = .int i ∧ dy = .int j ∧ b = g i j) : OpR X f (rD G (bD gd)) := by
  intro pins s σ' H x y v u Q I rx ry h
  obtain ⟨env, c, σ, dx, dy, nb, R, hx, hy, h⟩ := h
  obtain ⟨d, e, h⟩ := post_lift h
  obtain ⟨b, e2, rfl⟩ := Option.map_eq_some_iff.mp e
  clear e
  obtain ⟨i, j, rfl, rfl, rfl⟩ := hg _ _ _ e2
  exact ho pins s σ' H x y v u Q I rx ry ⟨i, j, rb_int hx, rb_int hy, h.give R (.bl _) nown_bl⟩
theorem b2i {f : D → D → Option Bool} {k : Int → Int → Bool} {x y : D} {d : Bool} (e : f x y = some d) (h : ∀ x y, f x y = match x with | .int i => (match y with | .int j => some (k i j) | _ => none) | _ => none) : ∃ i j, x = .int i ∧ y = .int j ∧ d = k i j := by
  rw [h] at e
  cases x <;> first | (cases e; done) | skip
  cases y <;> first | (cases e; done) | skip
  exact ⟨_, _, rfl, rfl, (Option.some.inj e).symm⟩
theorem o_lt : OpR X (compareOp .Lt) (rD G (bD ltv)) := oc_int L2.op_lt fun _ _ _ e => b2i (k := fun i j => decide (i < j)) e fun _ _ => rfl
theorem o_le : OpR X (compareOp .LtE) (rD G (bD lev)) := oc_int L2.op_le fun _ _ _ e => b2i (k := fun i j => decide (i ≤ j)) e fun _ _ => rfl
theorem o_gt : OpR X (compareOp .Gt) (rD G (bD fun x y => ltv y x)) := oc_int L2.op_gt fun x y b e => by
  obtain ⟨i, j, h1, h2, h3⟩ := b2i (f := ltv) (k := fun i j => decide (i < j)) e fun _ _ => rfl
  exact ⟨j, i, h2, h1, h3⟩
theorem o_ge : OpR X (compareOp .GtE) (rD G (bD fun x y => lev y x)) := oc_int L2.op_ge fun x y b e => by
  obtain ⟨i, j, h1, h2, h3⟩ := b2i (f := lev) (k := fun i j => decide (i ≤ j)) e fun _ _ => rfl
  exact ⟨j, i, h2, h1, h3⟩
mutual
theorem pd_dp {K : PySem.W.Frag} {fa ca A H} : ∀ {d : D} {v : V} {p : PyData}, Rp K fa ca A H v d → pd d = some p → L2.Dp K H v p
  | .non, _, _, h, e => by cases h; cases e; exact .non
  | .bl b, _, _, h, e => by cases h; cases e; exact .bl b
  | .int i, _, _, h, e => by cases h; cases e; exact .int i
  | .str x, _, _, h, e => by cases h; cases e; exact .str x
  | .tup ds, _, _, h, e => by
    cases h with
    | tup h r =>
      simp only [pd, Option.map_eq_some_iff] at e
      obtain ⟨ps, e1, rfl⟩ := e
      exact .tup h (pds_dp r e1)
  | .lst ds, _, _, h, e => by
    cases h with
    | lst h n r =>
      simp only [pd, Option.map_eq_some_iff] at e
      obtain ⟨ps, e1, rfl⟩ := e
      exact .lst (.of h) (pds_dp r e1)
  | .own ds, _, _, h, e => by
    cases h with
    | own h n r =>
      simp only [pd, Option.map_eq_some_iff] at e
      obtain ⟨ps, e1, rfl⟩ := e
      exact .lst (.of h) (pds_dp (r.anti fun _ z => .inl z) e1)
  | .scr _, _, _, _, e => by cases e
  | .cup, _, _, _, e => by cases e
  | .fn _, _, _, _, e => by cases e
theorem pds_dp {K : PySem.W.Frag} {fa ca A H} : ∀ {ds : List D} {vs : List V} {ps : List PyData}, Rps K fa ca A H vs ds → pds ds = some ps → L2.DpAll K H vs ps
  | [], _, _, h, e => by cases h; cases e; exact .nil
  | d :: ds, _, _, h, e => by
    cases h with
    | cons h1 h2 =>
      simp only [pds] at e
      split at e
      · rename_i x xs e1 e2
        cases e
        exact .cons (pd_dp h1 e1) (pds_dp h2 e2)
      · cases e
end
theorem rb_dp {K : PySem.W.Frag} {fa ca A H} {d : D} {v : V} {p : PyData} (h : Rb K fa ca A H v d) (e : pd d = some p) : L2.Dp K H v p := by
  cases h with
  | of h => exact pd_dp h e
  | lst h n r =>
    simp only [pd, Option.map_eq_some_iff] at e
    obtain ⟨ps, e1, rfl⟩ := e
    exact .lst (.of h) (pds_dp r e1)
theorem deq_some {x y : D} {b : Bool} (e : deq x y = some b) : ∃ p q, pd x = some p ∧ pd y = some q ∧ SeqAt.shaped p = true ∧ SeqAt.shaped q = true ∧ b = PyData.eqv p q := by
  unfold deq at e
  split at e
  · rename_i p q e1 e2
    split at e
    · rename_i h
      rw [Bool.and_eq_true] at h
      exact ⟨p, q, e1, e2, h.1, h.2, (Option.some.inj e).symm⟩
    · cases e
  · cases e
theorem o_eq (hK : X.K = G.K) (hu : X.A.units + 64 < cLine) : OpR X (compareOp .Eq) (rD G (bD deq)) := by
  intro pins s σ' H x y v u Q I rx ry h
  obtain ⟨env, c, σ, dx, dy, nb, R, hx, hy, h⟩ := h
  obtain ⟨d, e, h⟩ := post_lift h
  obtain ⟨b, e2, rfl⟩ := Option.map_eq_some_iff.mp e
  clear e
  obtain ⟨p, q, e3, e4, s1, s2, rfl⟩ := deq_some e2
  exact L2.op_eqD hu pins s σ' H x y v u Q I rx ry ⟨p, q, by rw [hK]; exact rb_dp hx e3, by rw [hK]; exact rb_dp hy e4, s1, s2, h.give R (.bl _) nown_bl⟩
theorem o_ne (hK : X.K = G.K) (hu : X.A.units + 64 < cLine) : OpR X (compareOp .NotEq) (rD G (bD fun x y => (deq x y).map (!·))) := by
  intro pins s σ' H x y v u Q I rx ry h
  obtain ⟨env, c, σ, dx, dy, nb, R, hx, hy, h⟩ := h
  obtain ⟨d, e, h⟩ := post_lift h
  obtain ⟨b1, e1, rfl⟩ := Option.map_eq_some_iff.mp e
  obtain ⟨b, e2, rfl⟩ := Option.map_eq_some_iff.mp e1
  clear e e1
  obtain ⟨p, q, e3, e4, s1, s2, rfl⟩ := deq_some e2
  exact L2.op_neD hu pins s σ' H x y v u Q I rx ry ⟨p, q, by rw [hK]; exact rb_dp hx e3, by rw [hK]; exact rb_dp hy e4, s1, s2, h.give R (.bl _) nown_bl⟩
def isNonD : D → Bool
  | .non => true
  | _ => false
theorem rp_nn {K : PySem.W.Frag} {fa ca A H} {d : D} {v : V} (h : Rb K fa ca A H v d) : decide (v = .non) = isNonD d := by
  cases h with
  | of h => cases h <;> simp [isNonD]
  | lst h _ _ => simp [isNonD]
theorem o_is : OpR X (compareOp .Is) (rD G (bD isv)) := by
  intro pins s σ' H x y v u Q I rx ry h
  obtain ⟨env, c, σ, dx, dy, nb, R, hx, hy, h⟩ := h
  obtain ⟨d, e, hp⟩ := post_lift h
  clear h
  obtain ⟨b, e2, rfl⟩ := Option.map_eq_some_iff.mp e
  clear e
  cases dy with
  | non =>
    refine L2.op_isN pins s σ' H x y v u Q I rx ry ⟨rb_non hy, ?_⟩
    rw [rp_nn hx]
    have eb : b = isNonD dx := by cases dx <;> exact (Option.some.inj e2).symm
    rw [← eb]
    exact hp.give R (.bl _) nown_bl
  | bl b' =>
    cases dx with
    | bl a =>
      cases e2
      exact L2.op_isBl pins s σ' H x y v u Q I rx ry ⟨a, b', rb_bl hx, rb_bl hy, hp.give R (.bl _) nown_bl⟩
    | _ => cases e2
  | _ => cases e2
theorem o_isnot : OpR X (compareOp .IsNot) (rD G (bD fun x y => (isv x y).map (!·))) := by
  intro pins s σ' H x y v u Q I rx ry h
  obtain ⟨env, c, σ, dx, dy, nb, R, hx, hy, h⟩ := h
  obtain ⟨d, e, hp⟩ := post_lift h
  clear h
  obtain ⟨b1, e1, rfl⟩ := Option.map_eq_some_iff.mp e
  obtain ⟨b, e2, rfl⟩ := Option.map_eq_some_iff.mp e1
  clear e e1
  cases dy with
  | non =>
    refine L2.op_notN pins s σ' H x y v u Q I rx ry ⟨rb_non hy, ?_⟩
    rw [rp_nn hx]
    have eb : b = isNonD dx := by cases dx <;> exact (Option.some.inj e2).symm
    rw [← eb]
    exact hp.give R (.bl _) nown_bl
  | bl b' =>
    cases dx with
    | bl a =>
      cases e2
      exact L2.op_notBl pins s σ' H x y v u Q I rx ry ⟨a, b', rb_bl hx, rb_bl hy, hp.give R (.bl _) nown_bl⟩
    | _ => cases e2
  | _ => cases e2
theorem rp_flat {K : PySem.W.Frag} {fa ca A H} {d : D} {v : V} (h : Rp K fa ca A H v d) (f : flat d = true) : L2.flatV v = true := by
  cases h <;> first | rfl | cases f
theorem rps_flat {K : PySem.W.Frag} {fa ca A H} : ∀ {ds : List D} {vs : List V}, Rps K fa ca A H vs ds → ds.all flat = true → vs.all L2.flatV = true
  | _, _, .nil, _ => rfl
  | _, _, .cons r t, f => by
    rw [List.all_cons, Bool.and_eq_true] at f ⊢
    exact ⟨rp_flat r f.1, rps_flat t f.2⟩
theorem rp_feq {K : PySem.W.Frag} {fa ca A H} {d e : D} {v w : V} (h : Rp K fa ca A H v d) (k : Rp K fa ca A H w e) (f : flat d = true) (g : flat e = true) : L2.eqV v w = feq d e := by
  cases h <;> first | (cases f; done) | skip
  all_goals (cases k <;> first | (cases g; done) | rfl)
theorem rps_any {K : PySem.W.Frag} {fa ca A H} {x : V} {dx : D} (hx : Rp K fa ca A H x dx) (f : flat dx = true) : ∀ {ds : List D} {vs : List V}, Rps K fa ca A H vs ds → ds.all flat = true → L2.inV x vs = ds.any fun z => feq z dx
  | _, _, .nil, _ => rfl
  | _, _, .cons q t, g => by
    rw [List.all_cons, Bool.and_eq_true] at g
    have ih := rps_any hx f t g.2
    unfold L2.inV at ih ⊢
    rw [List.any_cons, List.any_cons, rp_feq q hx g.1 f, ih]
theorem o_in (hK : X.K = G.K) : OpR X (compareOp .In) (rD G (bD inv)) := by
  intro pins s σ' H x y v u Q I rx ry h
  obtain ⟨env, c, σ, dx, dy, nb, R, hx, hy, h⟩ := h
  obtain ⟨d, e, h⟩ := post_lift h
  obtain ⟨b, e2, rfl⟩ := Option.map_eq_some_iff.mp e
  clear e
  unfold inv at e2
  split at e2
  · rename_i ys e3
    obtain ⟨hf, rfl⟩ := ite_some e2
    rw [Bool.and_eq_true] at hf
    obtain ⟨a, vs, e4, r, hs⟩ := rb_items hy e3
    have hx' : Rp G.K G.fa G.ca (Av G env σ) H x dx := by
      cases hx with
      | of q => exact q
      | lst _ _ _ => cases hf.1
    have ea : L2.inV x vs = ys.any (fun z => feq z dx) := rps_any hx' hf.1 r hf.2
    refine L2.op_in_seq pins s σ' H x y v u Q I rx ry ⟨a, vs, e4, ?_, rp_flat hx' hf.1, rps_flat r hf.2, ?_⟩
    · rw [hK]
      exact hs.imp (fun q => q.1) fun q => q.1
    · rw [if_neg Bool.false_ne_true, ea]
      exact h.give R (.bl _) nown_bl
  · cases e2
theorem o_notin (hK : X.K = G.K) : OpR X (compareOp .NotIn) (rD G (bD fun x y => (inv x y).map (!·))) := by
  intro pins s σ' H x y v u Q I rx ry h
  obtain ⟨env, c, σ, dx, dy, nb, R, hx, hy, h⟩ := h
  obtain ⟨d, e, h⟩ := post_lift h
  obtain ⟨b1, e1, rfl⟩ := Option.map_eq_some_iff.mp e
  obtain ⟨b, e2, rfl⟩ := Option.map_eq_some_iff.mp e1
  clear e e1
  unfold inv at e2
  split at e2
  · rename_i ys e3
    obtain ⟨hf, rfl⟩ := ite_some e2
    rw [Bool.and_eq_true] at hf
    obtain ⟨a, vs, e4, r, hs⟩ := rb_items hy e3
    have hx' : Rp G.K G.fa G.ca (Av G env σ) H x dx := by
      cases hx with
      | of q => exact q
      | lst _ _ _ => cases hf.1
    have ea : L2.inV x vs = ys.any (fun z => feq z dx) := rps_any hx' hf.1 r hf.2
    refine L2.op_notIn_seq pins s σ' H x y v u Q I rx ry ⟨a, vs, e4, ?_, rp_flat hx' hf.1, rps_flat r hf.2, ?_⟩
    · rw [hK]
      exact hs.imp (fun q => q.1) fun q => q.1
    · rw [if_pos rfl, ea]
      exact h.give R (.bl _) nown_bl
  · cases e2
end
/-- which operator stands in the text -/
def bopE : Bop → Operator → Bool
  | .add, .Add => true | .sub, .Sub => true | .mul, .Mult => true | .fdiv, .FloorDiv => true | .mod, .Mod => true | .pow, .Pow => true
  | _, _ => false
def copE : Cop → CmpOp → Bool
  | .lt, .Lt => true | .le, .LtE => true | .gt, .Gt => true | .ge, .GtE => true | .eq, .Eq => true | .ne, .NotEq => true | .is, .Is => true | .isnot, .IsNot => true | .isin, .In => true | .notin, .NotIn => true
  | _, _ => false
theorem bop_ok {X : Cx} {G : Gx} (hK : X.K = G.K) {o : Bop} {p : Operator} (h : bopE o p = true) : OpR X (binaryOp p) (rD G (binv o)) := by
  cases o <;> cases p <;> first | (cases h; done) | skip
  · exact o_add hK
  · exact o_sub
  · exact o_mul hK
  · exact o_fdiv
  · exact o_mod
  · exact o_pow
theorem cop_ok {X : Cx} {G : Gx} (hK : X.K = G.K) (hu : X.A.units + 64 < cLine) {o : Cop} {p : CmpOp} (h : copE o p = true) : OpR X (compareOp p) (rD G (bD (cmpv o))) := by
  cases o <;> cases p <;> first | (cases h; done) | skip
  · exact o_lt
  · exact o_le
  · exact o_gt
  · exact o_ge
  · exact o_eq hK hu
  · exact o_ne hK hu
  · exact o_is
  · exact o_isnot
  · exact o_in hK
  · exact o_notin hK
end PX

/-! # PX: names, displays, subscripts, built-ins, tests -/
namespace PX
open PySem PySem.Spec PyProof.Rows
open L2 (V HO Hp upd SqT SqL Rd TE TT TA TS TI TG Cx PE PT PA PS PSs PI PG Inv upd_same upd_ne OpR CallR IxR RelV Vals Room Vis Gl)

/-! ### the text's own forms -/
def isStar : Expr → Bool
  | .Starred .. => true
  | _ => false
def isSlice : Expr → Bool
  | .Slice .. => true
  | _ => false
def isSet : Expr → Bool
  | .Set .. => true
  | _ => false
theorem star_cons {e : Expr} {es : List Expr} {env : PySem.Env} (h : isStar e = false) : starEach (e :: es) env = (false, eval e env) :: starEach es env := by
  cases e <;> first | (cases h; done) | rfl
theorem star_back {env : PySem.Env} {pos : Pos} : ∀ {es : List Expr}, es.all (fun e => !isStar e) = true → (backTo pos (starEach es env)).any (·.1) = false
  | [], _ => rfl
  | e :: es, h => by
    rw [List.all_cons, Bool.and_eq_true, Bool.not_eq_true'] at h
    rw [star_cons h.1]
    show (false || (backTo pos (starEach es env)).any (·.1)) = false
    rw [star_back h.2]
    rfl
theorem plain_ix {b : Expr} (h : isSlice b = false) : L2.PlainIx b := fun o i => by
  cases b <;> first | (cases h; done) | rfl
theorem no_mark {op : CmpOp} {b : Expr} (h : isSet b = false) : behindInMarks op b = false := by
  cases b <;> first | (cases h; done) | rfl
theorem no_marks {o p : CmpOp} {b c : Expr} (h : isSet c = false) : lastMarks [o, p] [b, c] = false := no_mark h

section
variable {X : Cx} {G : Gx} {T : Tab} {cl : Cl}
/-! ### names and constants -/
theorem se_v {i : Nat} {x : Str} {pos : Pos} (hN : X.N[i]? = some x) (hv : Vis X.env.scope x) (hd : (x == ("__debug__" : Str)) = false) (hcd : (x == ("__classdict__" : Str)) = false) : PE X (.Name x pos) (tEv G true (ev T cl (.v i))) :=
  pe_imp (L2.pe_var hN hv hd hcd) fun σ H Q ⟨env, c, R, h⟩ => by
    simp only [ev] at h
    split at h
    · exact h.elim
    · rename_i d n e
      obtain ⟨v, h1, h2⟩ := R.val i _ e fun ds z => n ds (by rw [← z])
      exact ⟨v, h1, h.give R h2 fun ds z => n ds (by rw [← z])⟩
    · exact h.elim
theorem se_vb {i : Nat} {x : Str} {pos : Pos} (hN : X.N[i]? = some x) (hv : Vis X.env.scope x) (hd : (x == ("__debug__" : Str)) = false) (hcd : (x == ("__classdict__" : Str)) = false) : PE X (.Name x pos) (tEv G false (ev T cl (.vb i))) :=
  pe_imp (L2.pe_var hN hv hd hcd) fun σ H Q ⟨env, c, R, h⟩ => by
    simp only [ev] at h
    split at h
    · rename_i d e
      by_cases hn : ∃ ds, d = .own ds
      · obtain ⟨ds, rfl⟩ := hn
        obtain ⟨a, vs, h1, h2, h3, h4, h5⟩ := R.own i ds e
        exact ⟨.ref a, h1, h _ _ R (Stp.refl _ _) (.lst h2 (R.nca h3) h5) (fun z => by cases z) fun es b z => by cases z⟩
      · have hn' : ∀ ds, d ≠ .own ds := fun ds z => hn ⟨ds, z⟩
        obtain ⟨v, h1, h2⟩ := R.val i _ e hn'
        have en : norm d = d := by cases d <;> first | rfl | exact absurd rfl (hn' _)
        rw [en] at h
        exact ⟨v, h1, h _ _ R (Stp.refl _ _) (.of h2) (fun z => by cases z) fun es b z => absurd z (hn' es)⟩
    · exact h.elim
theorem se_c {e : Expr} {v : V} {d : D} {f : Env → C → R D} {nb : Bool} (h : PE X e (L2.tC v)) (hf : ∀ env c, f env c = .ok d c) (r : ∀ A ca H, Rp G.K G.fa ca A H v d) (n : ∀ ds, d ≠ .own ds) : PE X e (tEv G nb f) :=
  pe_imp h fun σ H Q ⟨env, c, R, q⟩ => by
    rw [hf] at q
    exact q.give R (r _ _ _) n
theorem se_int {n : Int} {j : Nat} {pos : Pos} {nb : Bool} : PE X (.Constant (.int n) j pos) (tEv G nb (ev T cl (.int n))) := se_c L2.pe_int (fun _ _ => by simp only [ev]) (fun _ _ _ => .int n) nown_int
theorem se_bl {n : Bool} {j : Nat} {pos : Pos} {nb : Bool} : PE X (.Constant (.bool n) j pos) (tEv G nb (ev T cl (.bl n))) := se_c L2.pe_bl (fun _ _ => by simp only [ev]) (fun _ _ _ => .bl n) nown_bl
theorem se_str {n : Str} {j : Nat} {pos : Pos} {nb : Bool} : PE X (.Constant (.str n) j pos) (tEv G nb (ev T cl (.str n))) := se_c L2.pe_str (fun _ _ => by simp only [ev]) (fun _ _ _ => .str n) nown_str
theorem se_non {j : Nat} {pos : Pos} {nb : Bool} : PE X (.Constant .none j pos) (tEv G nb (ev T cl .non)) := se_c L2.pe_non (fun _ _ => by simp only [ev]) (fun _ _ _ => .non) fun _ z => by cases z
theorem se_gl {j : Nat} {x : Str} {u : Value} {v : V} {d : D} {pos : Pos} {nb : Bool} (hg : Gl X x) (hm : X.mg x = some u) (r : RelV v u) (hd : T.consts[j]? = some d) (rp : ∀ A ca H, Rp G.K G.fa ca A H v d) (n : ∀ ds, d ≠ .own ds) (hdb : (x == ("__debug__" : Str)) = false) :
    PE X (.Name x pos) (tEv G nb (ev T cl (.gl j))) := se_c (L2.pe_glob hg hm r hdb) (fun _ _ => by simp only [ev, hd, lift]) rp n
theorem se_fn {j : Nat} {x : Str} {a : Addr} {pos : Pos} {nb : Bool} (hg : Gl X x) (hm : X.mg x = some (.ref a)) (ha : G.fa j = some a) (hdb : (x == ("__debug__" : Str)) = false) :
    PE X (.Name x pos) (tEv G nb (ev T cl (.fn j))) := se_c (L2.pe_glob (v := .ref a) hg hm rfl hdb) (fun _ _ => by simp only [ev]) (fun _ _ _ => .fn ha) fun _ z => by cases z
theorem se_neg {fa : Env → C → R D} {na nb : Bool} {a : Expr} {pos : Pos} (ha : PE X a (tEv G na fa)) :
    PE X (.UnaryOp .USub a pos) (tEv G nb fun env c => (fa env c).bind fun x c => match x with | .int i => .ok (.int (-i)) c | _ => .no) :=
  pe_imp (L2.pe_un L2.un_neg ha) fun σ H Q ⟨env, c, R, h⟩ => ⟨env, c, R, rb_post h fun d c1 v H1 R1 s1 rb1 _ _ h1 => by
    cases d <;> first | exact h1.elim | skip
    exact ⟨_, rb_int rb1, (h1.back R1 s1).give R1 (.int _) nown_int⟩⟩
/-! ### rows of expressions -/
theorem ses_nil : PA X [] (tEvs G (evs T cl [])) := pa_imp L2.pa_nil fun σ H Q ⟨env, c, R, h⟩ => by
  simp only [evs] at h
  exact h _ _ R (Stp.refl _ _) .nil
theorem ses_cons {e : Expr} {es : List Expr} {a : E} {as : List E} (ha : PE X e (tEv G true (ev T cl a))) (hs : PA X es (tEvs G (evs T cl as))) (n : isStar e = false) : PA X (e :: es) (tEvs G (evs T cl (a :: as))) :=
  pa_imp (L2.pa_cons ha hs (star_cons n)) fun σ H Q ⟨env, c, R, h⟩ => by
    simp only [evs] at h
    refine ⟨env, c, R, ?_⟩
    generalize ev T cl a env c = r at h ⊢
    cases r with
    | no => exact h
    | ex x c1 => exact h
    | ok d c1 =>
      intro v H1 R1 s1 rb1 rp1 _
      refine ⟨env, c1, R1, ?_⟩
      have h : PostL G env σ H Q ((evs T cl as env c1).bind fun xs c => .ok (d :: xs) c) := h
      generalize evs T cl as env c1 = r2 at h ⊢
      cases r2 with
      | no => exact h
      | ex x c2 => exact h
      | ok ds c2 =>
        intro vs H2 R2 s2 rps
        exact h (v :: vs) H2 R2 (s1.trans s2) (.cons ((rp1 rfl).keep s2 R1.w).norm rps)
theorem se_tup {es : List Expr} {as : List E} {k : Nat} {pos : Pos} {nb : Bool} (hs : PA X es (tEvs G (evs T cl as))) : PE X (.Tuple es k pos) (tEv G nb (ev T cl (.tup as))) :=
  pe_imp (L2.pe_tup hs) fun σ H Q ⟨env, c, R, h⟩ => by
    simp only [ev] at h
    refine ⟨env, c, R, lb_post h fun ds c1 vs H1 R1 s1 rps h1 => ?_⟩
    split at h1
    · rename_i hz
      refine ⟨by rw [rps.length, List.length_map, ← szl_eq]; exact hz, fun p hp => (h1.back R1 s1).newTup R1 rps hp⟩
    · exact h1.elim
theorem se_lst {es : List Expr} {as : List E} {pos : Pos} {nb : Bool} (hs : PA X es (tEvs G (evs T cl as))) : PE X (.List es pos) (tEv G nb (ev T cl (.lst as))) :=
  pe_imp (L2.pe_lst hs) fun σ H Q ⟨env, c, R, h⟩ => by
    simp only [ev] at h
    refine ⟨env, c, R, lb_post h fun ds c1 vs H1 R1 s1 rps h1 => ?_⟩
    split at h1
    · rename_i hz
      refine ⟨by rw [rps.length, List.length_map, ← szl_eq]; exact hz, fun p hp => (h1.back R1 s1).newList R1 rps hp⟩
    · exact h1.elim
/-! ### subscripts, slices -/
theorem Rps.atI {K : PySem.W.Frag} {fa ca A H} {vs : List V} {ds : List D} {i : Int} {d : D} (r : Rps K fa ca A H vs ds) (e : L2.atI ds i = some d) : ∃ v, L2.atI vs i = some v ∧ Rp K fa ca A H v d := by
  unfold L2.atI at e ⊢
  rw [r.length]
  cases e1 : L2.ixN ds.length i with
  | none => rw [e1] at e; cases e
  | some j =>
    rw [e1] at e
    exact r.get (i := j) e
def rIxD (G : Gx) : L2.R2 := fun x y H Q => ∃ (env : Env) (c : C) (σ : Sl) (dx : D) (i : Int) (nb : Bool), Rel G env c σ H ∧ Rb G.K G.fa G.ca (Av G env σ) H x dx ∧ y = .int i ∧ Post G nb env σ H Q (lift (ixv dx i c) c)
theorem nn {d : D} (n : ∀ ds, d ≠ .own ds) : norm d = d := by cases d <;> first | rfl | exact absurd rfl (n _)
theorem norm_nown (d : D) : ∀ ds, norm d ≠ .own ds := fun ds z => by cases d <;> cases z
theorem ix_ok (hK : X.K = G.K) : IxR X (rIxD G) := by
  intro a b pins s σ' H x y v u Q I rx ry h hs
  obtain ⟨env, c, σ, dx, i, nb, R, hx, rfl, h⟩ := h
  obtain ⟨d, e, hp⟩ := post_lift h
  clear h
  have go : ∀ ds, items dx = some ds → ixv dx i c = (L2.atI ds i).map norm → wpAny (model X.prog X.w) X.A (subscriptTail a b v u) (L2.EP X pins σ' Q) X.xe s := fun ds e1 e2 => by
    rw [e2] at e
    obtain ⟨d1, e3, rfl⟩ := Option.map_eq_some_iff.mp e
    obtain ⟨p, vs, rfl, r, hq⟩ := rb_items hx e1
    obtain ⟨w, e4, rw'⟩ := r.atI e3
    have q : Q w H := hp.give R rw'.norm (norm_nown d1)
    rcases hq with ⟨hq, _⟩ | ⟨hq, _⟩
    · exact L2.ix_list a b pins s σ' H _ _ v u Q I rx ry ⟨p, vs, i, w, rfl, rfl, by rw [hK]; exact hq, e4, q⟩ hs
    · exact L2.ix_tup a b pins s σ' H _ _ v u Q I rx ry ⟨p, vs, i, w, rfl, rfl, by rw [hK]; exact hq, e4, q⟩ hs
  cases dx with
  | cup =>
    obtain ⟨a', rfl, hca⟩ : ∃ a', x = .ref a' ∧ G.ca = some a' := by
      cases hx with
      | of q => cases q with | cup q => exact ⟨_, rfl, q⟩
    have hcup := R.inh.cup
    cases c with
    | none => cases e
    | some pq =>
      obtain ⟨p, q⟩ := pq
      rw [hca] at hcup
      have hl : SqL X.K H a' [.int p, .int q] := L2.SqL.of hcup
      have e : (if i = 0 then some (D.int p) else if i = 1 then some (D.int q) else none) = some d := e
      split at e
      · rename_i hi
        subst hi
        cases e
        exact L2.ix_list a b pins s σ' H _ _ v u Q I rx ry ⟨a', _, 0, .int p, rfl, rfl, hl, rfl, hp.give R (.int _) nown_int⟩ hs
      · split at e
        · rename_i hi
          subst hi
          cases e
          exact L2.ix_list a b pins s σ' H _ _ v u Q I rx ry ⟨a', _, 1, .int q, rfl, rfl, hl, rfl, hp.give R (.int _) nown_int⟩ hs
        · cases e
  | str z =>
    have e : (if z.length ≤ szl then (L2.atI z.cps.toList i).map fun k => D.str ⟨#[k]⟩ else none) = some d := e
    split at e
    · rename_i hz
      obtain ⟨k, e3, rfl⟩ := Option.map_eq_some_iff.mp e
      exact L2.ix_str a b pins s σ' H _ _ v u Q I rx ry ⟨z, i, k, rb_str hx, rfl, by rw [← szl_eq]; exact hz, e3, hp.give R (.str _) nown_str⟩ hs
    · cases e
  | tup ds => exact go ds rfl rfl
  | lst ds => exact go ds rfl rfl
  | own ds => exact go ds rfl rfl
  | scr l => exact go _ rfl rfl
  | _ => cases e
theorem se_ix {fa fb : Env → C → R D} {na nb n : Bool} {a b : Expr} {pos : Pos} (hK : X.K = G.K) (ha : PE X a (tEv G na fa)) (hb : PE X b (tEv G nb fb)) (hs : isSlice b = false) :
    PE X (.Subscript a b pos) (tEv G n fun env c => (fa env c).bind fun x c => (fb env c).bind fun y c => match y with | .int i => lift (ixv x i c) c | _ => .no) :=
  pe_imp (L2.pe_ix (ix_ok hK) ha hb (plain_ix hs)) fun σ H Q ⟨env, c, R, h⟩ => ⟨env, c, R, rb_post h fun d c1 v H1 R1 s1 rb1 _ _ h1 => ⟨env, c1, R1, rb_post (h1.back R1 s1) fun d2 c2 v2 H2 R2 s2 rb2 _ _ h2 => by
    cases d2 <;> first | exact h2.elim | skip
    exact ⟨env, c2, σ, d, _, n, R2, rb1.keep s2 R1.w, rb_int rb2, h2.back R2 s2⟩⟩⟩
/-- a slice's parts -/
def tEvo (G : Gx) (f : Env → C → R (Option Int)) : L2.TO := fun σ H Q => ∃ env c, Rel G env c σ H ∧ PostB G env σ H Q (f env c)
theorem so_none : L2.PO X none (tEvo G (evo T cl .nop)) := ⟨fun pins s σ H Q I ⟨env, c, R, h⟩ => L2.po_none.run pins s σ H Q I (by simp only [evo] at h; exact h _ R (Stp.refl _ _))⟩
theorem so_some {e : Expr} {a : E} {nb : Bool} (ha : PE X e (tEv G nb (ev T cl a))) : L2.PO X (some e) (tEvo G (evo T cl (.itr a))) :=
  ⟨fun pins s σ H Q I ⟨env, c, R, h⟩ => (L2.po_some ha).run pins s σ H Q I (by
    refine ⟨env, c, R, ?_⟩
    simp only [evo] at h
    generalize ev T cl a env c = r at h ⊢
    cases r with
    | no => exact h
    | ex x c1 => exact h
    | ok d c1 =>
      intro v H1 R1 s1 rb1 _ _
      have h : PostB G env σ H Q (lift (partOf d) c1) := h
      cases d <;> first | exact h.elim | skip
      exact ⟨_, rb_int rb1, h _ R1 s1⟩)⟩
theorem cut_map {K : PySem.W.Frag} {fa ca A H} {vs : List V} {ds : List D} (r : Rps K fa ca A H vs ds) (lo hi : Option Int) : Rps K fa ca A H (L2.cutV vs lo hi) (cut ds lo hi) := by
  unfold L2.cutV cut
  rw [r.length]
  exact (r.drop _).take _
theorem cut_all {α : Type} {xs : List α} {lo hi : Option Int} (h : HT.sIx xs.length 0 lo = 0 ∧ HT.sIx xs.length xs.length hi = xs.length) : cut xs lo hi = xs := by
  unfold cut
  rw [h.1, h.2, List.drop_zero, Nat.sub_zero, List.take_length]
def rSlD (G : Gx) : V → Option Int → Option Int → Hp → L2.VK → Prop := fun x lo hi H Q => ∃ (env : Env) (c : C) (σ : Sl) (dx : D) (nb : Bool), Rel G env c σ H ∧ Rb G.K G.fa G.ca (Av G env σ) H x dx ∧ Post G nb env σ H Q (lift (slv dx lo hi) c)
theorem sl_ok (hK : X.K = G.K) : L2.SlR X (rSlD G) := by
  intro pins s σ' H x v vl vu lo hi sl Q I rx hs pl pu h
  obtain ⟨env, c, σ, dx, nb, R, hx, h⟩ := h
  obtain ⟨d, e, hp⟩ := post_lift h
  clear h
  have go : ∀ ds, lsts dx = some ds → slv dx lo hi = some (.own (cut ds lo hi)) → ∃ T id, typeLookup (.type T) "__getitem__" = pure (some (.builtin id)) ∧ s.TypeIs v T ∧ wpAny (model X.prog X.w) X.A (getItem v (.ref sl)) (L2.EP X pins σ' Q) X.xe s := fun ds e1 e2 => by
    rw [e2] at e
    cases e
    obtain ⟨a, vs, rfl, h1, r⟩ := rb_lsts hx e1
    exact L2.sl_list pins s σ' H _ v vl vu lo hi sl Q I rx hs pl pu ⟨a, vs, rfl, .of h1, fun p hp' => hp.newList R (cut_map r lo hi) hp'⟩
  cases dx with
  | tup ds =>
    cases e
    obtain ⟨a, vs, rfl, h1, r⟩ := rb_tup hx
    refine L2.sl_tupA pins s σ' H _ v vl vu lo hi sl Q I rx hs pl pu ⟨a, vs, rfl, by rw [hK]; exact h1, fun hw => ?_, fun _ p hp' => hp.newTup R (cut_map r lo hi) hp'⟩
    have ew : cut ds lo hi = ds := cut_all (by rw [r.length] at hw; exact hw)
    rw [ew] at hp
    exact hp.give R (.tup h1 r) nown_tup
  | lst ds => exact go ds rfl rfl
  | own ds => exact go ds rfl rfl
  | _ => cases e
theorem se_sl {e : Expr} {lo hi : Option Expr} {a l h : E} {na nb : Bool} {p2 pos : Pos} (hK : X.K = G.K) (ha : PE X e (tEv G na (ev T cl a))) (hl : L2.PO X lo (tEvo G (evo T cl l))) (hh : L2.PO X hi (tEvo G (evo T cl h))) :
    PE X (.Subscript e (.Slice lo hi none p2) pos) (tEv G nb (ev T cl (.sl a l h))) :=
  pe_imp (L2.pe_slice (sl_ok hK) ha hl hh) fun σ H Q ⟨env, c, R, q⟩ => by
    simp only [ev] at q
    refine ⟨env, c, R, rb_post q fun d c1 v H1 R1 s1 rb1 _ _ h1 => ⟨env, c1, R1, ?_⟩⟩
    have h1 := h1.back R1 s1
    generalize evo T cl l env c1 = r at h1 ⊢
    cases r with
    | no => exact h1
    | ex x c1 => exact h1
    | ok o c2 =>
      intro H2 R2 s2
      refine ⟨env, c2, R2, ?_⟩
      have h2 : Post G nb env σ H1 Q ((evo T cl h env c2).bind fun h c => lift (slv d o h) c) := h1
      generalize evo T cl h env c2 = r at h2 ⊢
      cases r with
      | no => exact h2
      | ex x c1 => exact h2
      | ok o2 c3 =>
        intro H3 R3 s3
        exact ⟨env, c3, σ, d, nb, R3, rb1.keep (s2.trans s3) R1.w, Post.back R3 (s2.trans s3) h2⟩
end
end PX

/-! # PX: sorted of a list of pairs of ints -/
namespace PX
open PySem PySem.Spec PyProof.Rows
open L2 (V HO Hp upd SqT SqL Rd TE TT TA TS TI TG Cx PE PT PA PS PSs PI PG Inv upd_same upd_ne OpR CallR IxR RelV Vals Room Vis Gl)
theorem leP_tot (x y : Int × Int) : leP x y = false → leP y x = true := by
  unfold leP
  simp only [decide_eq_false_iff_not, decide_eq_true_eq]
  omega
theorem leP_tr {x y z : Int × Int} (h1 : leP x y = true) (h2 : leP y z = true) : leP x z = true := by
  unfold leP at *
  simp only [decide_eq_true_eq] at *
  omega
theorem leP_anti {x y : Int × Int} (h1 : leP x y = true) (h2 : leP y x = true) : x = y := by
  unfold leP at *
  simp only [decide_eq_true_eq] at *
  exact Prod.ext (by omega) (by omega)
theorem insP_perm (x : Int × Int) : ∀ l : List (Int × Int), (insP x l).Perm (x :: l)
  | [] => .refl _
  | y :: r => by
    unfold insP
    split
    · exact .refl _
    · exact ((insP_perm x r).cons y).trans (.swap x y r)
theorem sortP_perm : ∀ l : List (Int × Int), (sortP l).Perm l
  | [] => .refl _
  | x :: r => (insP_perm x _).trans ((sortP_perm r).cons x)
theorem insP_sorted (x : Int × Int) : ∀ l : List (Int × Int), l.Pairwise (fun a b => leP a b = true) → (insP x l).Pairwise (fun a b => leP a b = true)
  | [], _ => by simp [insP]
  | y :: r, h => by
    unfold insP
    rw [List.pairwise_cons] at h
    split
    · rename_i hxy
      rw [List.pairwise_cons]
      refine ⟨fun z hz => ?_, List.pairwise_cons.mpr h⟩
      rcases List.mem_cons.mp hz with e | hz
      · rw [e]; exact hxy
      · exact leP_tr hxy (h.1 z hz)
    · rename_i hxy
      rw [List.pairwise_cons]
      refine ⟨fun z hz => ?_, insP_sorted x r h.2⟩
      rcases List.mem_cons.mp ((insP_perm x r).mem_iff.mp hz) with e | hz
      · rw [e]; exact leP_tot _ _ (by simpa using hxy)
      · exact h.1 z hz
theorem sortP_sorted : ∀ l : List (Int × Int), (sortP l).Pairwise (fun a b => leP a b = true)
  | [] => .nil
  | x :: r => insP_sorted x _ (sortP_sorted r)
/-- x is the pair p -/
def Pr (K : PySem.W.Frag) (H : Hp) (x : V) (p : Int × Int) : Prop := ∃ t, x = .ref t ∧ SqT K H t [.int p.1, .int p.2]
def Prs (K : PySem.W.Frag) (H : Hp) : List V → List (Int × Int) → Prop
  | [], [] => True
  | x :: xs, p :: ps => Pr K H x p ∧ Prs K H xs ps
  | _, _ => False
theorem Prs.all {K : PySem.W.Frag} {H : Hp} {k : V → Int × Int} : ∀ {xs : List V}, (∀ x ∈ xs, Pr K H x (k x)) → Prs K H xs (xs.map k)
  | [], _ => trivial
  | x :: xs, h => ⟨h x List.mem_cons_self, Prs.all fun y m => h y (List.mem_cons_of_mem _ m)⟩
theorem Prs.mem {K : PySem.W.Frag} {H : Hp} : ∀ {xs : List V} {l : List (Int × Int)}, Prs K H xs l → ∀ x ∈ xs, ∃ p, Pr K H x p
  | [], [], _, _, h => by cases h
  | x :: xs, p :: l, ⟨h1, h2⟩, y, m => by
    rcases List.mem_cons.mp m with e | m
    · rw [e]; exact ⟨p, h1⟩
    · exact Prs.mem h2 y m
theorem Prs.map {K : PySem.W.Frag} {H : Hp} {k : V → Int × Int} (f : ∀ x p q, Pr K H x p → Pr K H x q → p = q) : ∀ {xs : List V} {l : List (Int × Int)}, Prs K H xs l → (∀ x ∈ xs, Pr K H x (k x)) → xs.map k = l
  | [], [], _, _ => rfl
  | x :: xs, p :: l, ⟨h1, h2⟩, hk => by
    rw [List.map_cons, Prs.map f h2 fun y m => hk y (List.mem_cons_of_mem _ m), f x _ _ (hk x List.mem_cons_self) h1]
section
variable {X : Cx}
theorem pr_pair {pins : List (Addr × Obj)} {s : Shared} {σ : L2.St} {H : Hp} (I : Inv X pins σ H s) {t : Addr} {p : Int × Int} (h : SqT X.K H t [.int p.1, .int p.2]) : Srt.IsPair s.heap (.ref t) p.1 p.2 := by
  obtain ⟨its, r, ⟨o, ho, hc, n, hd⟩, hz⟩ := I.tuple h
  obtain ⟨u1, u2, e, ri, rj⟩ := L2.vals2 r
  obtain ⟨t1, rfl⟩ := ri
  obtain ⟨t2, rfl⟩ := rj
  subst e
  exact ⟨t, o, t1, t2, n, rfl, ho, hc, hd⟩
theorem cr_sortedPA : CallR X (.builtin "sorted") (fun vs H Q => ∃ (a : Addr) (xs : List V) (l : List (Int × Int)), vs = [V.ref a] ∧ SqL X.K H a xs ∧ Prs X.K H xs l ∧ ∀ ys p, Prs X.K H ys (sortP l) → H p = none → Q (.ref p) (upd H p (.lst ys))) := by
  intro pins s σ H vs us Q I r h
  obtain ⟨a, xs, l, rfl, hs, hx, q⟩ := h
  obtain ⟨its, rv, hl, hz⟩ := I.list hs
  obtain ⟨u, rfl, ru⟩ := L2.vals1 r
  obtain rfl : u = Value.ref a := ru
  have same : ∀ x p p', Pr X.K H x p → Pr X.K H x p' → p = p' := by
    rintro x p p' ⟨t, rfl, h1⟩ ⟨t', e, h2⟩
    cases e
    obtain ⟨b, o, t1, t2, n, e, ho, hc, hd⟩ := pr_pair I h1
    obtain ⟨b', o', t1', t2', n', e', ho', hc', hd'⟩ := pr_pair I h2
    cases e
    cases e'
    rw [ho] at ho'
    cases ho'
    have e := hd.symm.trans hd'
    simp at e
    exact Prod.ext (by omega) (by omega)
  classical
  let k : V → Int × Int := fun x => if h : ∃ p, Pr X.K H x p then Classical.choose h else (0, 0)
  have kp : ∀ x p, Pr X.K H x p → Pr X.K H x (k x) := fun x p h => by
    have hh : ∃ p, Pr X.K H x p := ⟨p, h⟩
    show Pr X.K H x (if h : ∃ p, Pr X.K H x p then Classical.choose h else (0, 0))
    rw [dif_pos hh]
    exact Classical.choose_spec hh
  have kx : ∀ x ∈ xs, Pr X.K H x (k x) := fun x m => let ⟨p, h⟩ := hx.mem x m; kp x p h
  have hmap := Prs.map same hx kx
  generalize k = k at kx hmap
  obtain ⟨e1, e2⟩ := L2.refs_back rv fun x m => by
    obtain ⟨t, e, _⟩ := kx x m
    exact ⟨t, e⟩
  refine SrtO.sorted_pairsO (k := fun u => k (L2.backV u)) hl.isList (by rw [← rv.length]; exact hz) (fun v hv => ?_) fun h' d out h1 h2 keep hd hn => ?_
  · obtain ⟨t, rfl⟩ := e2 v hv
    have hm : V.ref t ∈ xs := by rw [e1]; exact List.mem_map.mpr ⟨_, hv, rfl⟩
    obtain ⟨t', e, ht⟩ := kx _ hm
    cases e
    exact pr_pair I ht
  · have h3 : ∀ u ∈ out, ∃ a, u = Value.ref a := fun u hu => e2 u (h2.perm.mem_iff.mp hu)
    obtain ⟨n, hn⟩ := hn
    have hb : SrtO.Stb (L2.ltP k) (out.map L2.backV) xs := by
      rw [e1]
      exact SrtO.Stb.map (L2.ltP_swo k) L2.backV h2
    have sd : SrtO.Srtd (L2.ltP k) (out.map L2.backV) := SrtO.srtd_map h1
    refine ⟨.ref d, upd H d (.lst (out.map L2.backV)), I.laid (t' := s.toks) keep hd ⟨?_, out, n, L2.vals_back h3, hn⟩, rfl, q _ d ?_ (I.hok.fresh hd)⟩
    · rw [hb.len]
      exact hz
    · have pm : (out.map L2.backV).Perm xs := hb.perm
      have e : (out.map L2.backV).map k = sortP l := by
        refine ((pm.map k).trans (hmap ▸ (sortP_perm l).symm)).eq_of_pairwise (fun x y _ _ p q => leP_anti p q) ?_ (sortP_sorted l)
        refine List.pairwise_map.mpr (List.Pairwise.imp ?_ sd)
        intro x y hxy
        have := SrtO.lexB_no.mp hxy
        unfold leP
        rw [decide_eq_true_eq]
        omega
      rw [← e]
      exact Prs.all fun x m => kx x (pm.mem_iff.mp m)
theorem Prs.of {K : PySem.W.Frag} {fa : Nat → Option Addr} {ca : Option Addr} {A : Addr → Prop} {H : Hp} : ∀ {xs : List V} {ds : List D} {l : List (Int × Int)}, Rps K fa ca A H xs ds → pairsD ds = some l → Prs K H xs l
  | [], _, l, .nil, h => by cases h; trivial
  | x :: xs, d :: ds, l, .cons r t, h => by
    unfold pairsD at h
    split at h <;> try (cases h; done)
    · rename_i e; cases e
    · rename_i i j r' e
      cases e
      obtain ⟨l', h1, rfl⟩ := Option.map_eq_some_iff.mp h
      refine ⟨?_, Prs.of t h1⟩
      cases r with
      | tup q w =>
        cases w with
        | cons w1 w2 => cases w2 with
          | cons w2 w3 =>
            cases w1
            cases w2
            cases w3
            exact ⟨_, rfl, q⟩
theorem Prs.rps {K : PySem.W.Frag} {fa : Nat → Option Addr} {ca : Option Addr} {A : Addr → Prop} {H : Hp} : ∀ {xs : List V} {l : List (Int × Int)}, Prs K H xs l → Rps K fa ca A H xs (l.map pairD)
  | [], [], _ => .nil
  | x :: xs, p :: l, ⟨⟨t, e, q⟩, h⟩ => by
    subst e
    exact .cons (.tup q (.cons (.int _) (.cons (.int _) .nil))) (Prs.rps h)
end
end PX

/-! # PX: built-ins, tests, calls -/
namespace PX
open PySem PySem.Spec PyProof.Rows
open L2 (V HO Hp upd SqT SqL Rd TE TT TA TS TI TG Cx PE PT PA PS PSs PI PG Inv upd_same upd_ne OpR CallR IxR RelV Vals Room Vis Gl)

theorem insI_perm (x : Int) : ∀ l : List Int, (insI x l).Perm (x :: l)
  | [] => .refl _
  | y :: r => by
    unfold insI
    split
    · exact .refl _
    · exact ((insI_perm x r).cons y).trans (.swap x y r)
theorem sortI_perm : ∀ l : List Int, (sortI l).Perm l
  | [] => .refl _
  | x :: r => (insI_perm x _).trans ((sortI_perm r).cons x)
theorem insI_sorted (x : Int) : ∀ l : List Int, l.Pairwise (· ≤ ·) → (insI x l).Pairwise (· ≤ ·)
  | [], _ => by simp [insI]
  | y :: r, h => by
    unfold insI
    rw [List.pairwise_cons] at h
    split
    · rename_i hxy
      rw [List.pairwise_cons]
      refine ⟨fun z hz => ?_, List.pairwise_cons.mpr h⟩
      rcases List.mem_cons.mp hz with e | hz
      · rw [e]; exact hxy
      · exact Int.le_trans hxy (h.1 z hz)
    · rename_i hxy
      rw [List.pairwise_cons]
      refine ⟨fun z hz => ?_, insI_sorted x r h.2⟩
      rcases List.mem_cons.mp ((insI_perm x r).mem_iff.mp hz) with e | hz
      · rw [e]; omega
      · exact h.1 z hz
theorem sortI_sorted : ∀ l : List Int, (sortI l).Pairwise (· ≤ ·)
  | [] => .nil
  | x :: r => insI_sorted x _ (sortI_sorted r)
theorem leastI_le : ∀ (l : List Int) (m : Int), leastI m l ≤ m ∧ ∀ y ∈ l, leastI m l ≤ y
  | [], m => ⟨Int.le_refl m, fun y h => by cases h⟩
  | x :: r, m => by
    obtain ⟨h1, h2⟩ := leastI_le r (if x < m then x else m)
    have h3 : (if x < m then x else m) ≤ m := by split <;> omega
    have h4 : (if x < m then x else m) ≤ x := by split <;> omega
    refine ⟨Int.le_trans h1 h3, fun y hy => ?_⟩
    rcases List.mem_cons.mp hy with e | hy
    · rw [e]; exact Int.le_trans h1 h4
    · exact h2 y hy
theorem mostI_le : ∀ (l : List Int) (m : Int), m ≤ mostI m l ∧ ∀ y ∈ l, y ≤ mostI m l
  | [], m => ⟨Int.le_refl m, fun y h => by cases h⟩
  | x :: r, m => by
    obtain ⟨h1, h2⟩ := mostI_le r (if m < x then x else m)
    have h3 : m ≤ (if m < x then x else m) := by split <;> omega
    have h4 : x ≤ (if m < x then x else m) := by split <;> omega
    refine ⟨Int.le_trans h3 h1, fun y hy => ?_⟩
    rcases List.mem_cons.mp hy with e | hy
    · rw [e]; exact Int.le_trans h4 h1
    · exact h2 y hy
theorem leastI_mem : ∀ (l : List Int) (m : Int), leastI m l ∈ m :: l
  | [], m => List.mem_cons_self
  | x :: r, m => by
    have h := leastI_mem r (if x < m then x else m)
    rcases List.mem_cons.mp h with e | h
    · have e : leastI m (x :: r) = if x < m then x else m := e
      rw [e]
      split
      · exact List.mem_cons_of_mem _ List.mem_cons_self
      · exact List.mem_cons_self
    · exact List.mem_cons_of_mem _ (List.mem_cons_of_mem _ h)
theorem mostI_mem : ∀ (l : List Int) (m : Int), mostI m l ∈ m :: l
  | [], m => List.mem_cons_self
  | x :: r, m => by
    have h := mostI_mem r (if m < x then x else m)
    rcases List.mem_cons.mp h with e | h
    · have e : mostI m (x :: r) = if m < x then x else m := e
      rw [e]
      split
      · exact List.mem_cons_of_mem _ List.mem_cons_self
      · exact List.mem_cons_self
    · exact List.mem_cons_of_mem _ (List.mem_cons_of_mem _ h)
/-- a call by its one value -/
def rC1 (G : Gx) (g : D → Option D) : List V → Hp → L2.VK → Prop := fun vs H Q => ∃ (env : Env) (c : C) (σ : Sl) (dx : D) (nb : Bool) (x : V), vs = [x] ∧ Rel G env c σ H ∧ Rb G.K G.fa G.ca (Av G env σ) H x dx ∧ Post G nb env σ H Q (lift (g dx) c)
/-- by its two values -/
def rC2 (G : Gx) (g : D → D → Option D) : List V → Hp → L2.VK → Prop := fun vs H Q => ∃ (env : Env) (c : C) (σ : Sl) (dx dy : D) (nb : Bool) (x y : V), vs = [x, y] ∧ Rel G env c σ H ∧ Rb G.K G.fa G.ca (Av G env σ) H x dx ∧ Rb G.K G.fa G.ca (Av G env σ) H y dy ∧ Post G nb env σ H Q (lift (g dx dy) c)
def b1N : B1 → Str
  | .len => "len" | .abs => "abs" | .int => "int" | .sum => "sum" | .all => "all" | .any => "any" | .tuple => "tuple" | .list => "list" | .sorted => "sorted" | .min => "min" | .max => "max" | .str => "str"
/-- what the name stands for -/
def b1V : B1 → Value
  | .len => .builtin "len" | .abs => .builtin "abs" | .int => .type "int" | .sum => .builtin "sum" | .all => .builtin "all" | .any => .builtin "any" | .tuple => .type "tuple" | .list => .type "list" | .sorted => .builtin "sorted" | .min => .builtin "min" | .max => .builtin "max" | .str => .type "str"
theorem boot_b1 (f : B1) : bootBuiltins (b1N f) = some (b1V f) := by cases f <;> decide +kernel
section
variable {X : Cx} {G : Gx} {T : Tab} {cl : Cl}
theorem sqlist {d : D} {ds : List D} {v : V} {A : Addr → Prop} {H : Hp} (h : Rb G.K G.fa G.ca A H v d) (e : items d = some ds) (n : ∀ es, d ≠ .tup es) : ∃ a vs, v = .ref a ∧ Rps G.K G.fa G.ca A H vs ds ∧ SqL G.K H a vs := by
  obtain ⟨a, vs, e1, r, hq⟩ := rb_items h e
  rcases hq with ⟨hq, _⟩ | ⟨_, z⟩
  · exact ⟨a, vs, e1, r, hq⟩
  · exact absurd z (n _)
/-- what is asked of a list alone -/
def listF (g : List D → Option D) (x : D) : Option D := match x with
  | .tup _ => none
  | x => (items x).bind g
theorem listF_some {g : List D → Option D} {x d : D} (e : listF g x = some d) : ∃ ds, items x = some ds ∧ g ds = some d ∧ ∀ es, x ≠ .tup es := by
  cases x with
  | tup _ => cases e
  | lst ds => exact ⟨ds, rfl, e, fun _ z => by cases z⟩
  | own ds => exact ⟨ds, rfl, e, fun _ z => by cases z⟩
  | scr l => exact ⟨_, rfl, e, fun _ z => by cases z⟩
  | _ => cases e
theorem b1_ok (hK : X.K = G.K) (hc : X.calm = true) (f : B1) : CallR X (b1V f) (rC1 G (b1v f)) := by
  intro pins s σ' H xs us Q I r h
  obtain ⟨env, c, σ, dx, nb, x, rfl, R, hx, h⟩ := h
  obtain ⟨d, e, hp⟩ := post_lift h
  clear h
  cases f with
  | len =>
    have go : ∀ ds, items dx = some ds → some (D.int ds.length) = some d → wpAny (model X.prog X.w) X.A (call (b1V .len) us) (L2.EP X pins σ' Q) X.xe s := fun ds e1 e2 => by
      cases e2
      obtain ⟨a, vs, rfl, r2, hq⟩ := rb_items hx e1
      refine L2.call_len_seq pins s σ' H _ us Q I r ⟨a, vs, rfl, by rw [hK]; exact hq.imp (fun q => q.1) fun q => q.1, ?_⟩
      rw [r2.length]
      exact hp.give R (.int _) nown_int
    cases dx with
    | str z =>
      obtain ⟨hz, rfl⟩ := ite_some e
      exact L2.call_len_str pins s σ' H _ us Q I r ⟨z, by rw [rb_str hx], by rw [← szl_eq]; exact hz, hp.give R (.int _) nown_int⟩
    | tup ds => exact go ds rfl e
    | lst ds => exact go ds rfl e
    | own ds => exact go ds rfl e
    | scr l => exact go _ rfl e
    | _ => cases e
  | abs =>
    cases dx <;> first | (cases e; done) | skip
    cases e
    exact L2.call_abs pins s σ' H _ us Q I r ⟨_, by rw [rb_int hx], hp.give R (.int _) nown_int⟩
  | int =>
    cases dx <;> first | (cases e; done) | skip
    · cases e
      exact L2.call_int1 pins s σ' H _ us Q I r (.inr ⟨_, by rw [rb_bl hx], hp.give R (.int _) nown_int⟩)
    · cases e
      exact L2.call_int1 pins s σ' H _ us Q I r (.inl ⟨_, by rw [rb_int hx], hp.give R (.int _) nown_int⟩)
  | sum =>
    have e : listF (fun ds => (intsD ds).map fun l => .int l.sum) dx = some d := by cases dx <;> exact e
    obtain ⟨ds, e1, e2, n⟩ := listF_some e
    obtain ⟨l, e3, rfl⟩ := Option.map_eq_some_iff.mp e2
    obtain ⟨a, vs, rfl, r2, hq⟩ := sqlist hx e1 n
    rw [r2.ints e3] at hq
    exact L2.cr_sum hc pins s σ' H _ us Q I r ⟨a, l, rfl, by rw [hK]; exact hq, hp.give R (.int _) nown_int⟩
  | all =>
    have e : listF (fun ds => (boolsD ds).map fun l => .bl (l.all id)) dx = some d := by cases dx <;> exact e
    obtain ⟨ds, e1, e2, n⟩ := listF_some e
    obtain ⟨l, e3, rfl⟩ := Option.map_eq_some_iff.mp e2
    obtain ⟨a, vs, rfl, r2, hq⟩ := sqlist hx e1 n
    rw [r2.bools e3] at hq
    exact L2.cr_all hc pins s σ' H _ us Q I r ⟨a, l, rfl, by rw [hK]; exact hq, hp.give R (.bl _) nown_bl⟩
  | any =>
    have e : listF (fun ds => (boolsD ds).map fun l => .bl (l.any id)) dx = some d := by cases dx <;> exact e
    obtain ⟨ds, e1, e2, n⟩ := listF_some e
    obtain ⟨l, e3, rfl⟩ := Option.map_eq_some_iff.mp e2
    obtain ⟨a, vs, rfl, r2, hq⟩ := sqlist hx e1 n
    rw [r2.bools e3] at hq
    exact L2.cr_any hc pins s σ' H _ us Q I r ⟨a, l, rfl, by rw [hK]; exact hq, hp.give R (.bl _) nown_bl⟩
  | tuple =>
    obtain ⟨ds, e1, rfl⟩ := Option.map_eq_some_iff.mp e
    obtain ⟨a, vs, rfl, r2, hq⟩ := rb_items hx e1
    refine L2.call_tuple_of pins s σ' H _ us Q I r ⟨a, vs, rfl, ?_⟩
    rcases hq with ⟨hq, _⟩ | ⟨hq, _⟩
    · exact .inl ⟨by rw [hK]; exact hq, fun p hp' => hp.newTup R r2 hp'⟩
    · exact .inr ⟨by rw [hK]; exact hq, hp.give R (.tup hq r2) nown_tup⟩
  | list =>
    obtain ⟨ds, e1, rfl⟩ := Option.map_eq_some_iff.mp e
    obtain ⟨a, vs, rfl, r2, hq⟩ := rb_items hx e1
    exact L2.call_list_of pins s σ' H _ us Q I r ⟨a, vs, rfl, by rw [hK]; exact hq.imp (fun q => q.1) fun q => q.1, fun p hp' => hp.newList R r2 hp'⟩
  | sorted =>
    have e : listF (fun ds => match intsD ds with | some l => some (.own ((sortI l).map .int)) | none => (match pairsD ds with | some l => some (.own ((sortP l).map pairD)) | none => none)) dx = some d := by cases dx <;> exact e
    obtain ⟨ds, e1, e2, n⟩ := listF_some e
    obtain ⟨a, vs, rfl, r2, hq⟩ := sqlist hx e1 n
    split at e2
    · rename_i l e3
      cases e2
      rw [r2.ints e3] at hq
      refine L2.cr_sortedI pins s σ' H _ us Q I r ⟨a, l, rfl, by rw [hK]; exact hq, fun ns' p h1 h2 hp' => ?_⟩
      have en : ns' = sortI l := (h1.trans (sortI_perm l).symm).eq_of_pairwise (fun x y _ _ p q => Int.le_antisymm p q) h2 (sortI_sorted l)
      rw [en]
      exact hp.newList R (Rps.of_ints _) hp'
    · split at e2
      · rename_i l e3
        cases e2
        exact cr_sortedPA pins s σ' H _ us Q I r ⟨a, vs, l, rfl, by rw [hK]; exact hq, by rw [hK]; exact Prs.of r2 e3, fun ys p h1 hp' => hp.newList R (by rw [hK] at h1; exact h1.rps) hp'⟩
      · cases e2
  | min =>
    have e : listF (fun ds => match intsD ds with | some (m :: l) => some (.int (leastI m l)) | _ => none) dx = some d := by cases dx <;> exact e
    obtain ⟨ds, e1, e2, n⟩ := listF_some e
    obtain ⟨a, vs, rfl, r2, hq⟩ := sqlist hx e1 n
    split at e2
    · rename_i m l e3
      cases e2
      rw [r2.ints e3] at hq
      refine L2.cr_min hc pins s σ' H _ us Q I r ⟨a, m :: l, rfl, by rw [hK]; exact hq, by simp, fun k hk hle => ?_⟩
      have ek : k = leastI m l := by
        have h1 := hle _ (leastI_mem l m)
        have h2 : leastI m l ≤ k := by
          rcases List.mem_cons.mp hk with z | z
          · rw [z]; exact (leastI_le l m).1
          · exact (leastI_le l m).2 k z
        omega
      rw [ek]
      exact hp.give R (.int _) nown_int
    · cases e2
  | max =>
    have e : listF (fun ds => match intsD ds with | some (m :: l) => some (.int (mostI m l)) | _ => none) dx = some d := by cases dx <;> exact e
    obtain ⟨ds, e1, e2, n⟩ := listF_some e
    obtain ⟨a, vs, rfl, r2, hq⟩ := sqlist hx e1 n
    split at e2
    · rename_i m l e3
      cases e2
      rw [r2.ints e3] at hq
      refine L2.cr_max hc pins s σ' H _ us Q I r ⟨a, m :: l, rfl, by rw [hK]; exact hq, by simp, fun k hk hle => ?_⟩
      have ek : k = mostI m l := by
        have h1 := hle _ (mostI_mem l m)
        have h2 : k ≤ mostI m l := by
          rcases List.mem_cons.mp hk with z | z
          · rw [z]; exact (mostI_le l m).1
          · exact (mostI_le l m).2 k z
        omega
      rw [ek]
      exact hp.give R (.int _) nown_int
    · cases e2
  | str =>
    cases dx with
    | str z =>
      cases e
      exact SkE.call_str_str pins s σ' H _ us Q I r ⟨z, by rw [rb_str hx], hp.give R (.str _) nown_str⟩
    | int i =>
      obtain ⟨hz, rfl⟩ := ite_some e
      exact L2.call_str_int pins s σ' H _ us Q I r ⟨i, by rw [rb_int hx], hz, hp.give R (.str _) nown_str⟩
    | _ => cases e
theorem se_b1 {fa : Env → C → R D} {na nb : Bool} {f : B1} {a : Expr} {p pos : Pos} (hK : X.K = G.K) (hc : X.calm = true) (hg : Gl X (b1N f)) (hm : X.mg (b1N f) = none) (ha : PE X a (tEv G na fa)) (hs : isStar a = false) :
    PE X (.Call (.Name (b1N f) p) [a] [] pos) (tEv G nb fun env c => (fa env c).bind fun x c => lift (b1v f x) c) := by
  have k : ∀ σ H Q, tEv G nb (fun env c => (fa env c).bind fun x c => lift (b1v f x) c) σ H Q → L2.tCB (rC1 G (b1v f)) (L2.tCons (tEv G na fa) L2.tNil) σ H Q := fun σ H Q ⟨env, c, R, h⟩ =>
    ⟨env, c, R, rb_post h fun d c1 v H1 R1 s1 rb1 _ _ h1 => ⟨env, c1, σ, d, nb, v, rfl, R1, rb1, h1.back R1 s1⟩⟩
  have hn : b1N f ≠ "__name__" := by cases f <;> decide
  have hd : (b1N f == ("__debug__" : Str)) = false := by cases f <;> decide
  have hb := boot_b1 f
  have hok := b1_ok (X := X) (G := G) hK hc f
  have he := star_cons (es := []) (env := X.env) hs
  cases f <;> first
    | exact pe_imp (L2.pe_callB hok hg hm hb (L2.pa_cons ha L2.pa_nil he) hn hd he rfl) k
    | exact pe_imp (L2.pe_callTy hok hg hm hb (L2.pa_cons ha L2.pa_nil he) hn hd he rfl) k
def b2N : B2 → Str
  | .min => "min" | .max => "max"
theorem se_b2 {fa fb : Env → C → R D} {na nb n : Bool} {f : B2} {a b : Expr} {p pos : Pos} (hc : X.calm = true) (hg : Gl X (b2N f)) (hm : X.mg (b2N f) = none) (ha : PE X a (tEv G na fa)) (hb : PE X b (tEv G nb fb)) (hs : isStar a = false) (hs2 : isStar b = false) :
    PE X (.Call (.Name (b2N f) p) [a, b] [] pos) (tEv G n fun env c => (fa env c).bind fun x c => (fb env c).bind fun y c => lift (b2v f x y) c) := by
  have k : ∀ σ H Q, tEv G n (fun env c => (fa env c).bind fun x c => (fb env c).bind fun y c => lift (b2v f x y) c) σ H Q → L2.tCB (rC2 G (b2v f)) (L2.tCons (tEv G na fa) (L2.tCons (tEv G nb fb) L2.tNil)) σ H Q := fun σ H Q ⟨env, c, R, h⟩ =>
    ⟨env, c, R, rb_post h fun d c1 v H1 R1 s1 rb1 _ _ h1 => ⟨env, c1, R1, rb_post (h1.back R1 s1) fun d2 c2 v2 H2 R2 s2 rb2 _ _ h2 => ⟨env, c2, σ, d, d2, n, v, v2, rfl, R2, rb1.keep s2 R1.w, rb2, h2.back R2 s2⟩⟩⟩
  have he := star_cons (es := [b]) (env := X.env) hs
  have he2 := star_cons (es := []) (env := X.env) hs2
  have hpl : (backTo pos (starEach [b] X.env)).any (·.1) = false := star_back (by simp [hs2])
  have nint : ∀ (f : B2) (x y d : D), b2v f x y = some d → ∃ i j, x = .int i ∧ y = .int j := fun f x y d e => by
    cases f <;> cases x <;> cases y <;> first | (cases e; done) | exact ⟨_, _, rfl, rfl⟩
  cases f with
  | min =>
    refine pe_imp (L2.pe_callB (r := rC2 G (b2v .min)) (fun pins s σ' H xs us Q I r h => ?_) hg hm (show bootBuiltins "min" = some (.builtin "min") by decide +kernel) (L2.pa_cons ha (L2.pa_cons hb L2.pa_nil he2) he) (by decide) (by decide) he hpl) k
    obtain ⟨env, c, σ, dx, dy, nb, x, y, rfl, R, hx, hy, h⟩ := h
    obtain ⟨d, e, hp⟩ := post_lift h
    obtain ⟨i, j, rfl, rfl⟩ := nint _ _ _ _ e
    cases e
    exact L2.call_min2 hc pins s σ' H _ us Q I r ⟨i, j, by rw [rb_int hx, rb_int hy], hp.give R (.int _) nown_int⟩
  | max =>
    refine pe_imp (L2.pe_callB (r := rC2 G (b2v .max)) (fun pins s σ' H xs us Q I r h => ?_) hg hm (show bootBuiltins "max" = some (.builtin "max") by decide +kernel) (L2.pa_cons ha (L2.pa_cons hb L2.pa_nil he2) he) (by decide) (by decide) he hpl) k
    obtain ⟨env, c, σ, dx, dy, nb, x, y, rfl, R, hx, hy, h⟩ := h
    obtain ⟨d, e, hp⟩ := post_lift h
    obtain ⟨i, j, rfl, rfl⟩ := nint _ _ _ _ e
    cases e
    exact L2.call_max2 hc pins s σ' H _ us Q I r ⟨i, j, by rw [rb_int hx, rb_int hy], hp.give R (.int _) nown_int⟩
/-! ### isinstance -/
def tyN : Ty → Str
  | .int => "int" | .bool => "bool" | .tuple => "tuple" | .str => "str" | .list => "list"
def tyS : Ty → String
  | .int => "int" | .bool => "bool" | .tuple => "tuple" | .str => "str" | .list => "list"
theorem boot_ty (t : Ty) : bootBuiltins (tyN t) = some (.type (tyS t)) := by cases t <;> decide +kernel
/-- the name of a value's type -/
def tyD : D → Option String
  | .non => some "NoneType" | .bl _ => some "bool" | .int _ => some "int" | .str _ => some "str" | .tup _ => some "tuple" | .lst _ => some "list" | .own _ => some "list"
  | _ => none
theorem isi_kit (x : D) (t : Ty) (b : Bool) (e : isiv x t = some b) : ∃ n, tyD x = some n ∧ L2.kitB n (tyS t) = some b := by
  cases x <;> first | (cases e; done) | skip
  all_goals (refine ⟨_, rfl, ?_⟩; cases t <;> cases e <;> decide +kernel)
theorem rb_ty {K : PySem.W.Frag} {fa ca A H v d n} (h : Rb K fa ca A H v d) (e : tyD d = some n) : L2.TyX K H v (.type n) := by
  cases d with
  | non => cases e; rw [rb_non h]; exact .base .non
  | bl b => cases e; rw [rb_bl h]; exact .base (.bl b)
  | int b => cases e; rw [rb_int h]; exact .base (.int b)
  | str b => cases e; rw [rb_str h]; exact .base (.str b)
  | tup ds =>
    cases e
    obtain ⟨a, vs, rfl, hq, _⟩ := rb_tup h
    rcases hq with (hq | ⟨o, hq⟩) | ⟨o, its, m, h1, h2, _⟩
    · exact .base (.tup hq)
    · exact .fTuple hq
    · exact .kTuple h1 h2
  | lst ds =>
    cases e
    obtain ⟨a, vs, rfl, hq, _⟩ := rb_lst h
    exact .base (.lst hq)
  | own ds =>
    cases e
    obtain ⟨a, vs, rfl, hq, _⟩ := rb_own h
    exact .base (.lst hq)
  | _ => cases e
theorem se_isi {fa : Env → C → R D} {na nb : Bool} {a : Expr} {t : Ty} {p q pos : Pos} (hK : X.K = G.K) (hg : Gl X "isinstance") (hm : X.mg "isinstance" = none) (hgt : Gl X (tyN t)) (hmt : X.mg (tyN t) = none) (ha : PE X a (tEv G na fa)) (hs : isStar a = false) :
    PE X (.Call (.Name "isinstance" p) [a, .Name (tyN t) q] [] pos) (tEv G nb fun env c => (fa env c).bind fun x c => lift ((isiv x t).map .bl) c) := by
  have he := star_cons (es := [.Name (tyN t) q]) (env := X.env) hs
  have hn : tyN t ≠ "__name__" := by cases t <;> decide
  have hd : (tyN t == ("__debug__" : Str)) = false := by cases t <;> decide
  have hb : PE X (.Name (tyN t) q) (L2.tC (.ty (tyS t))) := L2.pe_bltn hgt hmt (boot_ty t) rfl hn hd
  refine pe_imp (L2.pe_callB L2.call_isi hg hm PyProof.Rows.boot_isinstance (L2.pa_cons ha (L2.pa_cons hb L2.pa_nil) he) (by decide) (by decide) he rfl) fun σ H Q ⟨env, c, R, h⟩ => ?_
  refine ⟨env, c, R, rb_post h fun d c1 v H1 R1 s1 rb1 _ _ h1 => ?_⟩
  obtain ⟨d2, e, hp⟩ := post_lift (h1.back R1 s1)
  obtain ⟨b, e2, rfl⟩ := Option.map_eq_some_iff.mp e
  obtain ⟨n, e3, hk⟩ := isi_kit _ _ _ e2
  exact ⟨v, .ty (tyS t), .type n, _, b, rfl, .ty _, by rw [hK]; exact rb_ty rb1 e3, L2.kit_ty hk, hp.give R1 (.bl _) nown_bl⟩
/-! ### and, or, not, x if t else y -/
theorem se_and {fa fb : Env → C → R D} {na nb : Bool} {a b : Expr} {rest : List Expr} {pos : Pos} (ha : PE X a (tEv G na fa)) (hb : PE X (.BoolOp .And (b :: rest) pos) (tEv G nb fb)) :
    PE X (.BoolOp .And (a :: b :: rest) pos) (tEv G nb fun env c => (fa env c).bind fun x c => match x with | .bl true => fb env c | .bl false => .ok (.bl false) c | _ => .no) :=
  pe_imp (L2.pe_and ha hb) fun σ H Q ⟨env, c, R, h⟩ => ⟨env, c, R, rb_post h fun d c1 v H1 R1 s1 rb1 rp1 fr1 h1 => by
    cases d <;> first | exact h1.elim | skip
    rename_i b
    refine ⟨b, rb_bl rb1, ?_⟩
    cases b with
    | true => rw [if_pos rfl]; exact ⟨env, c1, R1, h1.back R1 s1⟩
    | false => rw [if_neg Bool.false_ne_true]; exact (h1.back R1 s1).give R1 (.bl _) nown_bl⟩
theorem se_or {fa fb : Env → C → R D} {na nb : Bool} {a b : Expr} {rest : List Expr} {pos : Pos} (ha : PE X a (tEv G na fa)) (hb : PE X (.BoolOp .Or (b :: rest) pos) (tEv G nb fb)) :
    PE X (.BoolOp .Or (a :: b :: rest) pos) (tEv G nb fun env c => (fa env c).bind fun x c => match x with | .bl false => fb env c | .bl true => .ok (.bl true) c | _ => .no) :=
  pe_imp (L2.pe_or ha hb) fun σ H Q ⟨env, c, R, h⟩ => ⟨env, c, R, rb_post h fun d c1 v H1 R1 s1 rb1 rp1 fr1 h1 => by
    cases d <;> first | exact h1.elim | skip
    rename_i b
    refine ⟨b, rb_bl rb1, ?_⟩
    cases b with
    | false => rw [if_neg Bool.false_ne_true]; exact ⟨env, c1, R1, h1.back R1 s1⟩
    | true => rw [if_pos rfl]; exact (h1.back R1 s1).give R1 (.bl _) nown_bl⟩
/-- a test as a value -/
theorem tb_give {nb : Bool} {σ : Sl} {H : Hp} {Q : V → Hp → Prop} {env : Env} {c : C} {b : Bool} (h : Post G nb env σ H Q (.ok (.bl b) c)) (R : Rel G env c σ H) : Q (.bl b) H := h.give R (.bl _) nown_bl
theorem se_ife {ft : Env → C → R Bool} {fa fb : Env → C → R D} {nb : Bool} {t a b : Expr} {pos : Pos} (ht : PT X t (tEvT G ft)) (ha : PE X a (tEv G nb fa)) (hb : PE X b (tEv G nb fb)) :
    PE X (.IfExp t a b pos) (tEv G nb fun env c => (ft env c).bind fun t c => if t then fa env c else fb env c) :=
  pe_imp (L2.pe_ifExp ht ha hb) fun σ H Q ⟨env, c, R, h⟩ => ⟨env, c, R, tb_post h fun d c1 H1 R1 s1 h1 => by
    cases d with
    | true => rw [if_pos rfl]; exact ⟨env, c1, R1, Post.back R1 s1 h1⟩
    | false => rw [if_neg Bool.false_ne_true]; exact ⟨env, c1, R1, Post.back R1 s1 h1⟩⟩
theorem se_chain {o p : Cop} {op op2 : CmpOp} {fa fb fd : Env → C → R D} {na nb nd n : Bool} {a b d : Expr} {pos : Pos} (hK : X.K = G.K) (hu : X.A.units + 64 < cLine) (ho : copE o op = true) (hp : copE p op2 = true) (ha : PE X a (tEv G na fa)) (hb : PE X b (tEv G nb fb)) (hd : PE X d (tEv G nd fd)) (hm : isSet d = false) :
    PE X (.Compare a [op, op2] [b, d] pos) (tEv G n fun env c => (fa env c).bind fun x c => (fb env c).bind fun y c => match cmpv o x y with
      | some true => (fd env c).bind fun z c => lift ((cmpv p y z).map .bl) c
      | some false => .ok (.bl false) c
      | none => .no) :=
  pe_imp (L2.pe_chain (cop_ok (G := G) hK hu ho) (cop_ok (G := G) hK hu hp) ha hb hd (no_marks hm)) fun σ H Q ⟨env, c, R, h⟩ => ⟨env, c, R, rb_post h fun x c1 v H1 R1 s1 rb1 _ _ h1 => ⟨env, c1, R1, rb_post (h1.back R1 s1) fun y c2 v2 H2 R2 s2 rb2 _ _ h2 => by
    have h2 := Post.back R2 s2 h2
    refine ⟨env, c2, σ, x, y, true, R2, rb1.keep s2 R1.w, rb2, ?_⟩
    unfold bD
    cases e : cmpv o x y with
    | none => rw [e] at h2; exact h2.elim
    | some k =>
      rw [e] at h2
      intro v3 H3 R3 s3 rb3 _ _
      refine ⟨k, rb_bl rb3, ?_⟩
      cases k with
      | true =>
        rw [if_pos rfl]
        refine ⟨env, c2, R3, rb_post (Post.back R3 s3 h2) fun z c4 v4 H4 R4 s4 rb4 _ _ h4 => ?_⟩
        exact ⟨env, c4, σ, y, z, n, R4, rb2.keep (s3.trans s4) R2.w, rb4, h4.back R4 s4⟩
      | false =>
        rw [if_neg Bool.false_ne_true]
        exact (Post.back R3 s3 h2).give R3 (.bl _) nown_bl⟩⟩
end
end PX

/-! # PX: tests and calls -/
namespace PX
open PySem PySem.Spec PyProof.Rows
open L2 (V HO Hp upd SqT SqL Rd TE TT TA TS TI TG Cx PE PT PA PS PSs PI PG Inv upd_same upd_ne OpR CallR IxR RelV Vals Room Vis Gl)

theorem rps_emp {K : PySem.W.Frag} {fa ca A H} {vs : List V} {ds : List D} (r : Rps K fa ca A H vs ds) : (!ds.isEmpty) = !vs.isEmpty := by
  cases r <;> rfl
theorem rb_truth {K : PySem.W.Frag} {fa ca A H} {v : V} {d : D} {k : Bool} (h : Rb K fa ca A H v d) (e : truth d = some k) : L2.TruV K v H k := by
  have go : ∀ ds, items d = some ds → some (!ds.isEmpty) = some k → L2.TruV K v H k := fun ds e1 e2 => by
    cases e2
    obtain ⟨a, vs, rfl, r, hq⟩ := rb_items h e1
    rw [rps_emp r]
    rcases hq with ⟨hq, _⟩ | ⟨hq, _⟩
    · exact .inl ⟨vs, hq, rfl⟩
    · exact .inr (.inl ⟨vs, hq, rfl⟩)
  cases d with
  | non => cases e; rw [rb_non h]; rfl
  | bl b => cases e; rw [rb_bl h]; rfl
  | int i => cases e; rw [rb_int h]; rfl
  | str z =>
    obtain ⟨hz, rfl⟩ := ite_some e
    rw [rb_str h]
    exact ⟨by rw [← szl_eq]; exact hz, rfl⟩
  | tup ds => exact go ds rfl e
  | lst ds => exact go ds rfl e
  | own ds => exact go ds rfl e
  | scr l =>
    refine go _ rfl ?_
    rw [← show some (!l.isEmpty) = some k from e]
    cases l <;> rfl
  | _ => cases e
section
variable {X : Cx} {G : Gx} {T : Tab} {cl : Cl}
theorem st_of {e : Expr} {f : Env → C → R D} {nb : Bool} (hK : X.K = G.K) (h : PE X e (tEv G nb f)) (he : ∀ whole, isTrue e X.env whole = (do let v ← whole; standAt e.pos; holding [v] (truthy v))) :
    PT X e (tEvT G fun env c => (f env c).bind fun x c => lift (truth x) c) :=
  pt_imp (L2.pt_truth h he) fun σ H Q ⟨env, c, R, q⟩ => ⟨env, c, R, rb_post_t q fun d c1 v H1 R1 s1 rb1 _ _ h1 => by
    obtain ⟨k, e, h2⟩ := lift_some h1 fun z => z
    exact ⟨k, by rw [hK]; exact rb_truth rb1 e, h2 H1 R1 s1⟩⟩
theorem st_cmp {na nb : Bool} {o : Cop} {op : CmpOp} {fa fb : Env → C → R D} {a b : Expr} {pos : Pos} (hK : X.K = G.K) (hu : X.A.units + 64 < cLine) (ho : copE o op = true) (ha : PE X a (tEv G na fa)) (hb : PE X b (tEv G nb fb)) (hm : isSet b = false) :
    PT X (.Compare a [op] [b] pos) (tEvT G fun env c => (fa env c).bind fun x c => (fb env c).bind fun y c => lift (cmpv o x y) c) :=
  pt_imp (L2.pt_cmpR (cop_ok (G := G) hK hu ho) ha hb (no_mark hm)) fun σ H Q ⟨env, c, R, h⟩ => ⟨env, c, R, rb_post_t h fun d c1 v H1 R1 s1 rb1 _ _ h1 => ⟨env, c1, R1, rb_post_t (h1.back s1) fun d2 c2 v2 H2 R2 s2 rb2 _ _ h2 => by
    obtain ⟨k, e, h3⟩ := lift_some h2 fun z => z
    refine ⟨env, c2, σ, d, d2, true, R2, rb1.keep s2 R1.w, rb2, ?_⟩
    unfold bD
    rw [e]
    intro v3 H3 R3 s3 rb3 _ _
    exact ⟨k, rb_bl rb3, h3 H3 R3 (s2.trans s3)⟩⟩⟩
theorem st_chain {o p : Cop} {op op2 : CmpOp} {fa fb fd : Env → C → R D} {na nb nd : Bool} {a b d : Expr} {pos : Pos} (hK : X.K = G.K) (hu : X.A.units + 64 < cLine) (ho : copE o op = true) (hp : copE p op2 = true) (ha : PE X a (tEv G na fa)) (hb : PE X b (tEv G nb fb)) (hd : PE X d (tEv G nd fd)) (hm : isSet d = false) :
    PT X (.Compare a [op, op2] [b, d] pos) (tEvT G fun env c => (fa env c).bind fun x c => (fb env c).bind fun y c => match cmpv o x y with
      | some true => (fd env c).bind fun z c => lift (cmpv p y z) c
      | some false => .ok false c
      | none => .no) :=
  pt_imp (L2.pt_chain (cop_ok (G := G) hK hu ho) (cop_ok (G := G) hK hu hp) ha hb hd (no_marks hm)) fun σ H Q ⟨env, c, R, h⟩ => ⟨env, c, R, rb_post_t h fun x c1 v H1 R1 s1 rb1 _ _ h1 => ⟨env, c1, R1, rb_post_t (h1.back s1) fun y c2 v2 H2 R2 s2 rb2 _ _ h2 => by
    have h2 := PostB.back s2 h2
    refine ⟨env, c2, σ, x, y, true, R2, rb1.keep s2 R1.w, rb2, ?_⟩
    unfold bD
    cases e : cmpv o x y with
    | none => rw [e] at h2; exact h2.elim
    | some k =>
      rw [e] at h2
      intro v3 H3 R3 s3 rb3 _ _
      refine ⟨k, rb_bl rb3, ?_⟩
      cases k with
      | true =>
        rw [if_pos rfl]
        refine ⟨env, c2, R3, rb_post_t (PostB.back s3 h2) fun z c4 v4 H4 R4 s4 rb4 _ _ h4 => ?_⟩
        obtain ⟨k4, e4, h5⟩ := lift_some h4 fun z => z
        refine ⟨env, c4, σ, y, z, true, R4, rb2.keep (s3.trans s4) R2.w, rb4, ?_⟩
        show Post G true env σ H4 _ (lift ((cmpv p y z).map D.bl) c4)
        rw [e4]
        intro v5 H5 R5 s5 rb5 _ _
        exact ⟨k4, rb_bl rb5, h5 H5 R5 (s4.trans s5)⟩
      | false =>
        rw [if_neg Bool.false_ne_true]
        exact ⟨false, rfl, (PostB.back s3 h2) H3 R3 (Stp.refl _ _)⟩⟩⟩
theorem st_not {f : Env → C → R Bool} {a : Expr} {pos : Pos} (h : PT X a (tEvT G f)) : PT X (.UnaryOp .Not a pos) (tEvT G fun env c => (f env c).bind fun x c => .ok (!x) c) :=
  pt_imp (L2.pt_not h) fun σ H Q ⟨env, c, R, q⟩ => ⟨env, c, R, tb_post_t q fun d c1 H1 R1 s1 h1 => h1 H1 R1 s1⟩
theorem se_not {f : Env → C → R D} {a : Expr} {na nb : Bool} {pos : Pos} (hK : X.K = G.K) (h : PE X a (tEv G na f)) : PE X (.UnaryOp .Not a pos) (tEv G nb fun env c => (f env c).bind fun x c => lift ((truth x).map fun b => .bl !b) c) :=
  pe_imp (L2.pe_notT h) fun σ H Q ⟨env, c, R, q⟩ => ⟨env, c, R, rb_post q fun d c1 v H1 R1 s1 rb1 _ _ h1 => by
    obtain ⟨d2, e, hp⟩ := post_lift (h1.back R1 s1)
    obtain ⟨b, e2, rfl⟩ := Option.map_eq_some_iff.mp e
    exact ⟨b, by rw [hK]; exact rb_truth rb1 e2, hp.give R1 (.bl _) nown_bl⟩⟩
theorem st_bl {b : Bool} {j : Nat} {pos : Pos} : PT X (.Constant (.bool b) j pos) (tEvT G fun _ c => .ok b c) :=
  pt_imp (L2.pt_val L2.pe_bl) fun σ H Q ⟨env, c, R, q⟩ => ⟨b, rfl, q H R (Stp.refl _ _)⟩
theorem st_ife {ft fa fb : Env → C → R Bool} {t a b : Expr} {pos : Pos} (ht : PT X t (tEvT G ft)) (ha : PT X a (tEvT G fa)) (hb : PT X b (tEvT G fb)) :
    PT X (.IfExp t a b pos) (tEvT G fun env c => (ft env c).bind fun t c => if t then fa env c else fb env c) := ⟨fun pins s σ H Q I ⟨env, c, R, h⟩ => by
  show wpAny _ _ (do if ← isTrue t X.env (eval t X.env) then isTrue a X.env (eval a X.env) else isTrue b X.env (eval b X.env)) _ _ _
  refine wpAny_bind (L2.thn (ht.run pins s σ H (fun d H1 => ∃ c1, Rel G env c1 σ H1 ∧ PostB G env σ H1 Q (if d then fa env c1 else fb env c1)) I ⟨env, c, R, tb_post_t h fun d c1 H1 R1 s1 h1 => ⟨c1, R1, PostB.back s1 h1⟩⟩) fun d s1 ⟨H1, I1, c1, R1, h1⟩ => ?_)
  cases d with
  | true => rw [if_pos rfl]; exact ha.run pins s1 σ H1 Q I1 ⟨env, c1, R1, h1⟩
  | false => rw [if_neg Bool.false_ne_true]; exact hb.run pins s1 σ H1 Q I1 ⟨env, c1, R1, h1⟩⟩
theorem st_and1 {f : Env → C → R Bool} {a : Expr} {pos : Pos} (h : PT X a (tEvT G f)) : L2.PW X (.BoolOp .And [a] pos) (tEvT G f) := L2.pw_and1 h
theorem st_or1 {f : Env → C → R Bool} {a : Expr} {pos : Pos} (h : PT X a (tEvT G f)) : L2.PW X (.BoolOp .Or [a] pos) (tEvT G f) := L2.pw_or1 h
theorem pw_imp {e : Expr} {t t' : TT} (h : L2.PW X e t) (k : ∀ σ H Q, t' σ H Q → t σ H Q) : L2.PW X e t' := ⟨fun wh pins s σ H Q I q => h.run wh pins s σ H Q I (k σ H Q q)⟩
theorem st_and {fa fb : Env → C → R Bool} {a b : Expr} {rest : List Expr} {pos : Pos} (ha : PT X a (tEvT G fa)) (hb : L2.PW X (.BoolOp .And (b :: rest) pos) (tEvT G fb)) :
    L2.PW X (.BoolOp .And (a :: b :: rest) pos) (tEvT G fun env c => (fa env c).bind fun x c => if x then fb env c else .ok false c) :=
  pw_imp (L2.pw_and ha hb) fun σ H Q ⟨env, c, R, q⟩ => ⟨env, c, R, tb_post_t q fun d c1 H1 R1 s1 h1 => by
    cases d with
    | true => rw [if_pos rfl]; exact ⟨env, c1, R1, PostB.back s1 h1⟩
    | false => rw [if_neg Bool.false_ne_true]; exact h1 H1 R1 s1⟩
theorem st_or {fa fb : Env → C → R Bool} {a b : Expr} {rest : List Expr} {pos : Pos} (ha : PT X a (tEvT G fa)) (hb : L2.PW X (.BoolOp .Or (b :: rest) pos) (tEvT G fb)) :
    L2.PW X (.BoolOp .Or (a :: b :: rest) pos) (tEvT G fun env c => (fa env c).bind fun x c => if x then .ok true c else fb env c) :=
  pw_imp (L2.pw_or ha hb) fun σ H Q ⟨env, c, R, q⟩ => ⟨env, c, R, tb_post_t q fun d c1 H1 R1 s1 h1 => by
    cases d with
    | false => rw [if_neg Bool.false_ne_true]; exact ⟨env, c1, R1, PostB.back s1 h1⟩
    | true => rw [if_pos rfl]; exact h1 H1 R1 s1⟩
end

/-! ## calls -/
def FPost (G : Gx) (H : Hp) (Q : V → Hp → Prop) : R D → Prop
  | .ok d c => ∀ v H', Inh G c H' → Rp G.K G.fa G.ca G.O H' v d → Fr H v d → Q v H'
  | .ex x c => XP G x c
  | .no => False
/-- a def's promise: it does what f says -/
def spF (S : Gs) (np : Nat) (f : List D → C → R D) : L2.Sp := fun vs H Q E => ∃ (O : Addr → Prop) (ca : Option Addr) (ds : List D) (c : C), ds.length = np ∧ (∀ d ∈ ds, ∀ es, d ≠ .own es) ∧ Inh ⟨S, ca, O, H, E⟩ c H ∧ Rps S.K S.fa ca O H vs ds ∧ FPost ⟨S, ca, O, H, E⟩ H Q (f ds c)
/-- the def of index j stands behind the name x -/
structure FnI (S : Gs) (X : Cx) (n : Nat) (j : Nat) (x : Str) (f : List D → C → R D) : Prop where
  ex : ∃ (a : Addr) (fd : FuncData) (ps : List Str), S.fa j = some a ∧ X.mg x = some (.ref a) ∧ PySem.W.keepIn X.K (.ref a) = true ∧ L2.Binds X.K fd ps [] ∧ L2.FnOk X.prog X.w X.K X.mg X.base (L2N.CX X.prog X.w) n a fd ps (spF S ps.length f) ∧ ∀ ds c, ds.length ≠ ps.length → f ds c = .no
theorem Inh.go {G : Gx} {c c' : C} {H H' : Hp} (I : Inh G c H) (s : Stp G.ca H H') (hc : CupOk G.ca c' H') (ht : LamX.Tabs G.T H') : Inh G c' H' := ⟨hc, ht, I.stp.trans s, I.oc, fun a ha => by
  obtain ⟨o, e⟩ := I.ol a ha
  by_cases hca : some a = G.ca
  · exact hc.lst a hca.symm
  · exact ⟨o, s a _ e lst_nt hca⟩⟩
section
variable {X : Cx} {G : Gx} {T : Tab} {cl : Cl}
/-- the call's own surroundings -/
theorem call_in {n : Nat} {env : Env} {σ : Sl} {H : Hp} {c : C} {f : List D → C → R D} {ds : List D} {vs : List V} {nb : Bool} {Q : V → Hp → Prop} (R : Rel G env c σ H) (r : Rps G.K G.fa G.ca (Av G env σ) H vs (ds.map norm)) (hn : ds.length = n) (h : Post G nb env σ H Q (f (ds.map norm) c)) :
    spF G.toGs n f vs H Q G.E := by
  refine ⟨Av G env σ, G.ca, ds.map norm, c, by simpa using hn, (fun d hd => by
    obtain ⟨d', _, rfl⟩ := List.mem_map.mp hd
    exact norm_nown d'), ⟨R.inh.cup, R.inh.tab, Stp.refl _ _, fun a e => (R.w a e).1, Av.lst R⟩, r, ?_⟩
  generalize f (ds.map norm) c = q at h
  cases q with
  | no => exact h
  | ex x c1 =>
    intro cls dd H' I' hx
    exact h cls dd H' (R.inh.go I'.stp I'.cup I'.tab) hx
  | ok d c1 =>
    intro v H' I' rp fr
    exact h v H' (R.stp I'.stp (R.inh.go I'.stp I'.cup I'.tab)) I'.stp (.of rp) (fun _ => rp) fr
theorem se_call {n j : Nat} {x : Str} {p pos : Pos} {es : List Expr} {as : List E} {nb : Bool} (F : FnI G.toGs X n j x (cl j)) (hr : Room n X.A) (tk : L2N.Takes X (fun cls d _ H => G.E cls d H)) (hg : Gl X x) (hdb : (x == ("__debug__" : Str)) = false)
    (hs : PA X es (tEvs G (evs T cl as))) (hst : es.all (fun e => !isStar e) = true) (hz : es.length = as.length) : PE X (.Call (.Name x p) es [] pos) (tEv G nb (ev T cl (.call j as))) := by
  obtain ⟨a, fd, ps, hfa, hm, hk, hb, F, hno⟩ := F.ex
  have hx : L2.Passes (L2N.CX X.prog X.w) X G.E := L2N.passes_call tk fun _ _ _ _ h => h
  have k : ∀ σ H Q, tEv G nb (ev T cl (.call j as)) σ H Q → tEvs G (evs T cl as) σ H fun vs H1 => spF G.toGs ps.length (cl j) (vs ++ []) H1 Q G.E := fun σ H Q ⟨env, c, R, h⟩ => by
    simp only [ev] at h
    refine ⟨env, c, R, ?_⟩
    generalize e : evs T cl as env c = r at h
    cases r with
    | no => exact h
    | ex x c1 => exact h
    | ok ds c1 =>
      intro vs H1 R1 s1 r1
      rw [List.append_nil]
      have h : Post G nb env σ H Q (cl j (ds.map norm) c1) := h
      refine call_in R1 r1 ?_ (h.back R1 s1)
      by_cases hd : ds.length = ps.length
      · exact hd
      · rw [hno _ _ (by simpa using hd)] at h
        exact h.elim
  cases es with
  | nil =>
    refine pe_imp (L2.pe_call0 F hr hg hm hk hb .nil hx hdb) fun σ H Q ⟨env, c, R, h⟩ => ?_
    cases as with
    | nil =>
      simp only [ev, evs] at h
      have h : Post G nb env σ H Q (cl j (([] : List D).map norm) c) := h
      refine call_in (vs := []) (ds := []) R .nil ?_ h
      by_cases hd : ([] : List D).length = ps.length
      · exact hd
      · rw [hno _ _ (by simpa using hd)] at h
        exact h.elim
    | cons a as => exact absurd hz (by simp)
  | cons e es =>
    rw [List.all_cons, Bool.and_eq_true, Bool.not_eq_true'] at hst
    exact pe_imp (L2.pe_call F hr hg hm hk hb .nil hx hs hdb (star_cons hst.1) (star_back hst.2)) fun σ H Q h => k σ H Q h
/-- a def that a name of the body holds -/
theorem se_callv {n i : Nat} {x : Str} {p pos : Pos} {e : Expr} {es : List Expr} {as : List E} {nb : Bool} (hF : ∀ j a, G.fa j = some a → ∃ y, FnI G.toGs X n j y (cl j)) (hr : Room n X.A) (tk : L2N.Takes X (fun cls d _ H => G.E cls d H)) (hN : X.N[i]? = some x) (hv : Vis X.env.scope x) (hdb : (x == ("__debug__" : Str)) = false) (hcd : (x == ("__classdict__" : Str)) = false)
    (hs : PA X (e :: es) (tEvs G (evs T cl as))) (hst : (e :: es).all (fun e => !isStar e) = true) : PE X (.Call (.Name x p) (e :: es) [] pos) (tEv G nb (ev T cl (.callv i as))) := by
  have hx : L2.Passes (L2N.CX X.prog X.w) X G.E := L2N.passes_call tk fun _ _ _ _ h => h
  rw [List.all_cons, Bool.and_eq_true, Bool.not_eq_true'] at hst
  refine ⟨fun pins s σ H Q I ⟨env, c, R, h⟩ => ?_⟩
  simp only [ev] at h
  split at h
  · rename_i j e1
    obtain ⟨v, h1, h2⟩ := R.val i _ e1 fun _ z => by cases z
    cases h2 with
    | fn hfa =>
      rename_i a
      obtain ⟨y, hF⟩ := hF j a hfa
      obtain ⟨a', fd, ps, hfa', hm, hk, hb, F, hno⟩ := hF.ex
      rw [hfa] at hfa'
      cases hfa'
      refine (L2.pe_callL (i := i) (f := a) F hr hN hv hk hb .nil hx hs hdb hcd (star_cons hst.1) (star_back hst.2)).run pins s σ H Q I ⟨h1, env, c, R, ?_⟩
      generalize evs T cl as env c = r at h
      cases r with
      | no => exact h
      | ex x c1 => exact h
      | ok ds c1 =>
        intro vs H1 R1 s1 r1
        rw [List.append_nil]
        have h : Post G nb env σ H Q (cl j (ds.map norm) c1) := h
        refine call_in R1 r1 ?_ (h.back R1 s1)
        by_cases hd : ds.length = ps.length
        · exact hd
        · rw [hno _ _ (by simpa using hd)] at h
          exact h.elim
  · exact h.elim
end
end PX

/-! # PX: fused built-ins -/
namespace PX
open PySem PySem.Spec PyProof.Rows
open L2 (V HO Hp upd SqT SqL Rd TE TT TA TS TI TG Cx PE PT PA PS PSs PI PG Inv upd_same upd_ne OpR CallR IxR RelV Vals Room Vis Gl)

/-! ### t[::-1] of a tuple -/
section
variable {prog : Program} {w : World} {A : Around} {E : Value → Shared → Prop} {s : Shared}
theorem applied_rev {sl : Addr} {vl vu vs : Value} {n : Nat} {Q : Int × Int × Nat → Shared → Prop} (hs : s.heap.IsSliceOf sl vl vu vs) (pl : IsPart vl none) (pu : IsPart vu none) (ps : IsPart vs (some (-1)))
    (h : Q ((n : Int) - 1, -1, n) s) : wpAny (model prog w) A (Builtin.Slice.sliceApplied (.ref sl) (pure (n : Int))) Q E s := by
  obtain ⟨os, hos, hcs, hds⟩ := id hs
  have places : Builtin.Slice.slicePlaces ((n : Int) - 1) (-1) (-1) = n := by
    unfold Builtin.Slice.slicePlaces
    rw [if_neg (show ¬ ((-1 : Int) > 0) by decide), show (- -1 : Int) = 1 from rfl, Int.ediv_one]
    split <;> omega
  have adj : Builtin.Slice.sliceAdjust none none (-1) (n : Int) = ((n : Int) - 1, -1) := rfl
  unfold Builtin.Slice.sliceApplied Builtin.Slice.sliceFields
  refine wpAny_bind (wpAny_bind (wpAny_field hos hds (x := vl) rfl (wpAny_bind (wpAny_field hos hds (x := vu) rfl (wpAny_bind (wpAny_field hos hds (x := vs) rfl (wpAny_pure ?_)))))))
  refine wpAny_bind (HT.slicePart_ ps ?_)
  show wpAny _ _ (if ((-1 : Int) == 0) = true then _ else _) _ _ s
  rw [if_neg (by decide)]
  refine wpAny_bind (HT.slicePart_ pl (wpAny_bind (HT.slicePart_ pu (wpAny_bind (wpAny_pure ?_)))))
  show wpAny _ _ (match Builtin.Slice.sliceAdjust none none (-1) (n : Int) with | (lo, hi) => pure (lo, (-1 : Int), Builtin.Slice.slicePlaces lo hi (-1))) _ _ s
  rw [adj]
  show wpAny _ _ (pure ((n : Int) - 1, (-1 : Int), Builtin.Slice.slicePlaces ((n : Int) - 1) (-1) (-1))) _ _ s
  rw [places]
  exact wpAny_pure h
theorem pick_rev (xs : Array Value) : ((List.range xs.size).filterMap fun (k : Nat) => xs[(((xs.size : Int) - 1) + (k : Int) * -1).toNat]?).toArray = xs.toList.reverse.toArray := by
  congr 1
  rw [← PySem.W.krv_all xs, ← List.filterMap_reverse, ← PySem.W.krv_range, List.filterMap_map]
  have key : ∀ l : List Nat, (∀ k ∈ l, k < xs.size) → (l.filterMap fun (k : Nat) => xs[(((xs.size : Int) - 1) + (k : Int) * -1).toNat]?) = l.filterMap ((fun x => xs[x]?) ∘ fun k => xs.size - 1 - k) := by
    intro l
    induction l with
    | nil => intro _; rfl
    | cons k l ih =>
      intro hl
      have hk := hl k List.mem_cons_self
      rw [List.filterMap_cons, List.filterMap_cons, ih fun j hj => hl j (List.mem_cons_of_mem _ hj)]
      show (match xs[(((xs.size : Int) - 1) + (k : Int) * -1).toNat]? with | _ => _) = _
      rw [show (((xs.size : Int) - 1) + (k : Int) * -1).toNat = xs.size - 1 - k by omega]
      rfl
  exact key _ fun k hk => List.mem_range.mp hk
theorem item_tup_rev {t sl : Addr} {its : Array Value} {vl vu vs : Value} {Q : Value → Shared → Prop} (ht : IsTup s.heap t its) (hs : s.heap.IsSliceOf sl vl vu vs) (pl : IsPart vl none) (pu : IsPart vu none) (ps : IsPart vs (some (-1)))
    (h : Q (.ref s.heap.objs.size) { s with heap := s.heap.push { cls := .type "tuple", data := .seq its.toList.reverse.toArray } }) (hsz : its.size ≤ sizeLine) : wpAny (model prog w) A (getItem (.ref t) (.ref sl)) Q E s := by
  obtain ⟨os, hos, hcs, hds⟩ := id hs
  have hTs : s.TypeIs (.ref sl) "slice" := ⟨os, hos, hcs⟩
  have hok : sizeOk (.seq its.toList.reverse.toArray) := by
    show its.toList.reverse.toArray.size ≤ sizeLine
    simpa using hsz
  unfold getItem
  try with_reducible refine wpAny_holding ?_
  first | refine wpAny_bind (wpAny_pure ?_) | skip
  refine wpAny_bind (wpAny_sequenceKey ht.typeIs (by decide) ?_)
  refine wpAny_bind ((wpAny_callSpecial?_slot (name := Str.ofString "__getitem__") ht.typeIs PyProof.Rows.slot_tuple_getitem
    (wpAny_call_entry PyProof.Rows.slot_tuple_getitem ht.typeIs entry_tuple_getitem ?_ (args_tuple_getitem _ _))))
  show wpAny _ _ (Builtin.Tuple.tupleItemsOf (.ref t) >>= _) _ _ s
  refine wpAny_bind (tupleItemsOf_ ht (wpAny_bind (wpAny_typeOf hTs ?_)))
  rw [if_pos (by decide)]
  refine wpAny_bind (applied_rev hs pl pu ps ?_)
  show wpAny _ _ (if ((((its.size : Nat) : Int) - 1) == 0 && (-1 : Int) == 1 && its.size == its.size) = true then _ else _) _ _ s
  rw [if_neg (by simp), pick_rev]
  first
    | exact wpAny_bind (m := Builtin.Tuple.tupleExact _) (wpAny_newObj_type (wpAny_pure ⟨_, rfl, wpAny_pure h⟩) hok)
    | exact wpAny_bind (wpAny_bind (m := Builtin.Tuple.tupleExact _) (wpAny_newObj_type (wpAny_pure (wpAny_pure ⟨_, rfl, wpAny_pure h⟩)) hok))
    | exact wpAny_bind (wpAny_bind (m := Builtin.Tuple.tupleExact _) (wpAny_newObj_type (wpAny_pure ⟨_, rfl, wpAny_pure h⟩) hok))
end
section
variable {X : Cx}
def tRevA (K : PySem.W.Frag) (te : TE) : TE := fun σ H Q => te σ H fun x H1 => ∃ a xs, x = .ref a ∧ ((SqL K H1 a xs ∧ ∀ p, H1 p = none → Q (.ref p) (upd H1 p (.lst xs.reverse))) ∨ (SqT K H1 a xs ∧ ∀ p, H1 p = none → Q (.ref p) (upd H1 p (.tup xs.reverse))))
theorem pe_revA {e : Expr} {te : TE} {k : Nat} {p1 p2 p3 pos : Pos} (he : PE X e te) : PE X (.Subscript e (.Slice none none (some (.UnaryOp .USub (.Constant (.int 1) k p1) p2)) p3) pos) (tRevA X.K te) := by
  constructor
  intro pins s σ H Q I h
  refine Subscript_ (L2.thn (he.run pins s σ H _ I h) ?_)
  rintro v s1 ⟨x, H1, I1, r1, a, xs, rfl, q⟩
  cases r1
  have hst : L2.PO X (some (.UnaryOp .USub (.Constant (.int 1) k p1) p2)) (L2.tPart (L2.tUn (L2.rU fun i => .int (-i)) (L2.tC (.int 1)))) := L2.po_some (L2.pe_un L2.un_neg L2.pe_int)
  refine wpAny_Slice (L2.thn (L2.po_none.run pins s1 σ H1 (fun o G => o = none ∧ G = H1) I1 ⟨rfl, rfl⟩) ?_)
  rintro vl s2 ⟨l, H2, I2, pl, rfl, rfl⟩
  refine L2.thn (L2.po_none.run pins s2 σ H2 (fun o G => o = none ∧ G = H2) I2 ⟨rfl, rfl⟩) ?_
  rintro vu s3 ⟨u, H3, I3, pu, rfl, rfl⟩
  refine L2.thn (hst.run pins s3 σ H3 (fun o G => o = some (-1) ∧ G = H3) I3 ⟨1, rfl, -1, rfl, rfl, rfl⟩) ?_
  rintro vs s4 ⟨o, H4, I4, ps, rfl, rfl⟩
  have I5 : Inv X pins σ H4 { s4 with heap := s4.heap.push { cls := .type "slice", data := .fields #[vl, vu, vs] } } := I4.kept (t' := s4.toks) fun b ob q => Heap.get?_push_of_some _ q
  show wpAny (model X.prog X.w) X.A (subscriptTail e (.Slice none none (some (.UnaryOp .USub (.Constant (.int 1) k p1) p2)) p3) (.ref a) (.ref s4.heap.objs.size)) (L2.EP X pins σ Q) X.xe { s4 with heap := s4.heap.push { cls := .type "slice", data := .fields #[vl, vu, vs] } }
  rcases q with ⟨hx, q⟩ | ⟨hx, q⟩
  · obtain ⟨its, r, ht, hz⟩ := I5.list hx
    have hlen := r.length
    refine tail_any (ops := [.ref a, .ref s4.heap.objs.size]) ht.isList.typeIs (PySem.slot_list_getitem.lookup) ?_ (by with_unfolding_all rfl)
    refine wpAny_getItem_list_slice ht.isList (Heap.IsSliceOf.new _ vl vu vs) pl pu ps (by decide) ?_ (by rw [List.size_toArray]; omega)
    rw [PySem.W.krv_pick]
    refine ⟨.ref _, _, I5.laid (t' := s4.toks) (o := .lst xs.reverse) (fun b ob q => Heap.get?_push_of_some _ q) (Nat.le_refl _) ?_, rfl, q _ (I5.hok.fresh (Nat.le_refl _))⟩
    exact ⟨by rw [List.length_reverse]; exact hz, _, 0, r.reverse, Heap.get?_push_size _ rfl⟩
  · obtain ⟨its, r, ht, hz⟩ := I5.tuple hx
    have hlen : its.toArray.size = xs.length := by rw [List.size_toArray]; exact r.length.symm
    refine tail_any (ops := [.ref a, .ref s4.heap.objs.size]) ht.typeIs PyProof.Rows.slot_tuple_getitem.lookup ?_ (by with_unfolding_all rfl)
    refine item_tup_rev ht (Heap.IsSliceOf.new _ vl vu vs) pl pu ps ?_ (by rw [hlen]; exact hz)
    refine ⟨.ref _, _, I5.laid (t' := s4.toks) (o := .tup xs.reverse) (fun b ob q => Heap.get?_push_of_some _ q) (Nat.le_refl _) ?_, rfl, q _ (I5.hok.fresh (Nat.le_refl _))⟩
    exact ⟨by rw [List.length_reverse]; exact hz, _, r.reverse, IsTup.new _ _⟩
end
end PX

/-! # PX: sorted(set(x)) of a list of ints -/
namespace PX
open PySem PySem.Spec PyProof.Rows
open L2 (V HO Hp upd SqT SqL Rd TE TT TA TS TI TG Cx PE PT PA PS PSs PI PG Inv upd_same upd_ne OpR CallR IxR RelV Vals Room Vis Gl)
abbrev newS (w : World) : Obj := { cls := .type "set", dict := none, data := .set #[] 0 (.fresh 0 0 (!w.params.followText "set-order")) }
section
variable {P : Program} {w : World} {A : Around} {E : Value → Shared → Prop} {s : Shared}
set_option maxHeartbeats 8000000 in
theorem call_set_ints {l : Addr} {its : Array Value} (ns : List Int) {Q : Value → Shared → Prop} (hh : A.handled = none) (hl : s.heap.IsList l its) (hit : IntsAre its.toList ns) (hb : ns.length + 1 < scanBound)
    (fin : ∀ (g : Heap) (tk c : Nat), L2.SetR w g s.heap.objs.size (fun j => decide (j ∈ ns)) c → c ≤ ns.length → (∀ b o, s.heap.get? b = some o → g.get? b = some o) → Q (.ref s.heap.objs.size) { s with heap := g, toks := tk }) :
    wpAny (model P w) A (call (.type "set") [.ref l]) Q E s := by
  have hsz : its.size = ns.length := by
    have := IntsAre.length hit
    rwa [Array.length_toList] at this
  obtain ⟨c, tl, hmro⟩ := F.called_set.mro
  have hmade := F.called_set.made
  have hsub := F.called_set.sub
  have h1 := F.called_set.notType
  have h2 := F.called_set.canCreate
  have hct := F.typeCall_set_1 (.ref l)
  refine wpAny_call (codeAny_of_tree ?_)
  show wpAny _ _ (callAny (.type "set") _) _ _ _
  refine wpAny_pure ⟨Code.quiet_builtin _ (by decide +kernel), codeAny_builtin F.entry_type_call ?_⟩
  rw [Around.under_plain (weight_type_call_type "set" [.ref l] []) rfl]
  repeat (any_goals (first | assumption | wp_step))
  refine codeAny_mono (L2.code_set_led1 (.ref l) (E := E) (Q₁ := fun v t => v = .ref s.heap.objs.size ∧ t = { s with heap := s.heap.push (newS w) }) ⟨rfl, rfl⟩) ?_
  rintro (_ | fl) s₁ hr
  · exact hr
  cases fl with
  | ret obj =>
    obtain ⟨rfl, rfl⟩ := hr
    have here : (s.heap.push (newS w)).get? s.heap.objs.size = some (newS w) := Heap.get?_push_size _ rfl
    have hT : Shared.TypeIs { s with heap := s.heap.push (newS w) } (.ref s.heap.objs.size) "set" := ⟨_, here, rfl⟩
    have hli := F.called_set.init.lookup
    have hbi := F.called_set.init.bind (.ref s.heap.objs.size)
    repeat (any_goals (first | assumption | wp_step))
    refine codeAny_mono (codeAny_call_builtin (R := wants (fun r t => r = .none ∧ ∃ g tk c, t = { s with heap := g, toks := tk } ∧ L2.SetR w g s.heap.objs.size (fun j => decide (j ∈ ns)) c ∧ c ≤ ns.length ∧
        (∀ b o, s.heap.get? b = some o → g.get? b = some o)) E) F.called_set.init.plain F.entry_set_init (check_set_init_1 hT ?_)) ?_
    · obtain ⟨⟨ocls, odict, odata, oslots⟩, hol, hcl, nl, hdl⟩ := hl
      simp only at hcl hdl
      subst hcl hdl
      have hol' : (s.heap.push (newS w)).get? l = some { cls := .type "list", dict := odict, data := .seq its nl, slots := oslots } := Heap.get?_push_of_some _ hol
      have e1 := F.sub_list_set
      have e2 := F.sub_list_frozenset
      have e3 : (Value.type "list" == Value.type "dict") = false := by decide
      have hl1 : (s.heap.push (newS w)).IsList l its := ⟨_, hol', rfl, nl, rfl⟩
      unfold Builtin.«set.__init__» noKeywords Builtin.Frozenset.updateFrom
      generalize hPI : pyIter = PI
      wp_walk
      subst hPI
      refine wpAny_pyIter_list hl1 (wpAny_bind (wpAny_runValue ?_))
      have lt : l < s.heap.objs.size := Heap.lt_size hol
      have hh3 : A.in1.in1.in1.handled = none := by simp [hh]
      have sz : (s.heap.push (newS w)).objs.size = s.heap.objs.size + 1 := Heap.size_push ..
      have ne : l ≠ (s.heap.push (newS w)).objs.size := sz ▸ Nat.ne_of_lt (Nat.lt_succ_of_lt lt)
      have out : s.heap.objs.size ∉ [(s.heap.push (newS w)).objs.size, l] := by
        intro z
        rcases List.mem_cons.mp z with z | z
        · exact Nat.ne_of_lt (Nat.lt_succ_self _) (z.trans sz)
        · exact Nat.ne_of_gt lt (List.mem_singleton.mp z)
      have val : ∀ (i : Nat) (v : Value), its[i]? = some v → ∃ k t, ns[i]? = some k ∧ v = .int k t := by
        intro i v hv
        have hi : i < ns.length := by rw [← hsz]; exact (Array.getElem?_eq_some_iff.mp hv).1
        obtain ⟨t, e⟩ := PyProof.Rows.IntsAre.int_at hit i v (by rw [Array.getElem?_toList]; exact hv)
        exact ⟨ns[i], t, List.getElem?_eq_getElem hi, by rw [e, List.getD_eq_getElem?_getD, List.getElem?_eq_getElem hi] <;> rfl⟩
      refine L2.set_update_ints ((Walks.list hh3 _ l ne its).toS) s.heap.objs.size out ns hsz hb val (its.size - 0) 0 _ (by omega) (Nat.zero_le _)
        ⟨⟨_, Heap.get?_push_size _ rfl, rfl, rfl⟩, (hl1.push _)⟩ ⟨0, Nat.le_refl 0, L2.setR_new_at (Heap.get?_push_of_some _ here)⟩ ?_
      rintro ⟨g, g2, d', tk', os'⟩ c' hm hc' hS'
      have eg : g2 = s.gens := hm.gens
      have ed : d' = s.drawn := hm.drawn
      have eo : os' = s.os := hm.os
      subst eg ed eo
      show wpAny _ _ _ _ _ _
      refine wpAny_pure ?_
      show wpAny _ _ (ret Value.none) _ _ _
      rw [hsz] at hc'
      refine wpAny_pure ⟨rfl, g, tk', c', rfl, hS', hc', ?_⟩
      intro b o e
      have b0 : b < s.heap.objs.size := Heap.lt_size e
      refine hm.heap b o ?_ (Heap.get?_push_of_some _ (Heap.get?_push_of_some _ e))
      intro z
      rcases List.mem_cons.mp z with z | z
      · exact Nat.ne_of_lt b0 z
      · exact Nat.ne_of_lt (Nat.lt_succ_of_lt b0) ((List.mem_singleton.mp z).trans sz)
    · rintro (_ | fl₂) s₂ hr₂
      · exact hr₂
      cases fl₂ with
      | ret r =>
        obtain ⟨rfl, g, tk, c', rfl, hS', hc', keep⟩ := hr₂
        repeat (any_goals (first | assumption | wp_step))
        exact fin g tk c' hS' hc' keep
      | _ => exact hr₂.elim
  | _ => exact hr.elim
end
section
variable {X : Cx}
/-- sorted(set(x)) -/
def tSSet (K : PySem.W.Frag) (ta : TE) : TE := fun σ H Q => ta σ H fun x H1 => ∃ (l : Addr) (ns : List Int), x = .ref l ∧ SqL K H1 l (ns.map V.int) ∧ ns.length < 64 ∧
  ∀ (ms : List Int) (p : Addr), ms.Pairwise (· < ·) → (∀ k : Int, k ∈ ms ↔ k ∈ ns) → H1 p = none → Q (.ref p) (upd H1 p (.lst (ms.map V.int)))
theorem pe_sortedSet {a : Expr} {ta : TE} {p p2 q pos : Pos} (hc : X.calm = true) (hg : Gl X "sorted") (hm : X.mg "sorted" = none) (hg2 : Gl X "set") (hm2 : X.mg "set" = none) (ha : PE X a ta)
    (na : starEach [a] X.env = (false, eval a X.env) :: starEach [] X.env := by rfl) : PE X (.Call (.Name "sorted" p) [.Call (.Name "set" p2) [a] [] q] [] pos) (tSSet X.K ta) := by
  constructor
  intro pins s σ H Q I h
  refine Call_ (L2.ld_blt I hg hm (show bootBuiltins "sorted" = some (.builtin "sorted") by decide +kernel) ?_)
  refine PyProof.Rows.callWith_builtin1 (PyProof.Rows.args_cons ?_ rfl) rfl rfl
  refine Call_ (L2.ld_blt I hg2 hm2 (show bootBuiltins "set" = some (.type "set") by decide +kernel) ?_)
  refine PyProof.Rows.callWith_type1 (PyProof.Rows.args_cons (L2.thn (ha.run pins s σ H _ I h) ?_) na) na rfl
  rintro v s1 ⟨x, H1, I1, r1, l, ns, rfl, hq, hl, q1⟩
  refine PyProof.Rows.args_nil ?_
  cases r1
  obtain ⟨its, r, pl, hz⟩ := I1.list hq
  refine call_set_ints ns (I1.ok.hd hc) pl.isList (by simpa using L2.ints_of_vals r) (by unfold scanBound; omega) fun g tk c hS hc' keep => ?_
  refine PyProof.Rows.args_nil ?_
  have I2 : Inv X pins σ H1 { s1 with heap := g, toks := tk } := I1.kept keep
  refine L2.sorted_set (s := { s1 with heap := g, toks := tk }) hS (I2.ok.hd hc) (by omega) fun s' p out c2 ms k e1 e2 hp hg' hi hs hmem hlen => ?_
  have hn : H1 p = none := I2.hok.fresh hp
  have hsz : (ms.map V.int).length ≤ sizeLine := by rw [List.length_map, hlen, PySem.sizeLine_eq]; omega
  have J : Inv X pins σ (upd H1 p (.lst (ms.map V.int))) { ({ s1 with heap := g, toks := tk } : Shared) with heap := s'.heap, gens := s'.gens, drawn := s'.drawn, toks := s'.toks } :=
    I2.call (ch := []) (L2.Un.laid k hp hn) (I2.hok.laid k hp ⟨hsz, out.toList, c2, L2.vals_of_ints hi, hg'⟩) (by rw [e1]; exact I2.bare) (fun _ z => nomatch z)
  have e : s' = { ({ s1 with heap := g, toks := tk } : Shared) with heap := s'.heap, gens := s'.gens, drawn := s'.drawn, toks := s'.toks } := by
    cases s'
    cases e2
    rfl
  rw [e]
  exact ⟨.ref p, _, J, rfl, q1 ms p hs (fun z => (hmem z).trans (by simp)) hn⟩
end
end PX

/-! # PX: fused built-ins, chains of three -/
namespace PX
open PySem PySem.Spec PyProof.Rows
open L2 (V HO Hp upd SqT SqL Rd TE TT TA TS TI TG Cx PE PT PA PS PSs PI PG Inv upd_same upd_ne OpR CallR IxR RelV Vals Room Vis Gl)
section
variable {X : Cx} {ta tb tc td : TE} {a b c d : Expr} {pos : Pos}
def tCh3 (r r' r'' : L2.R2) (ta tb tc td : TE) : TE := fun σ H Q => ta σ H fun x H1 => tb σ H1 fun y H2 => r x y H2 fun z H3 => ∃ k, z = .bl k ∧
  (if k = true then tc σ H3 fun u H4 => r' y u H4 fun z H5 => ∃ k, z = .bl k ∧ (if k = true then td σ H5 fun v H6 => r'' u v H6 Q else Q (.bl false) H5) else Q (.bl false) H3)
theorem pe_ch3 {op op' op'' : CmpOp} {r r' r'' : L2.R2} (ho : OpR X (compareOp op) r) (ho' : OpR X (compareOp op') r') (ho'' : OpR X (compareOp op'') r'') (ha : PE X a ta) (hb : PE X b tb) (hc : PE X c tc) (hd : PE X d td)
    (hm : lastMarks [op, op', op''] [b, c, d] = false) : PE X (.Compare a [op, op', op''] [b, c, d] pos) (tCh3 r r' r'' ta tb tc td) := by
  constructor
  intro pins s σ H Q I h
  refine Compare_chain (L2.thn (ha.run pins s σ H _ I h) ?_) hm
  rintro v s1 ⟨x, H1, I1, r1, q1⟩
  refine chain_link (L2.thn (hb.run pins s1 σ H1 _ I1 q1) ?_)
  rintro u s2 ⟨y, H2, I2, r2, q2⟩
  refine L2.thn (ho pins s2 σ H2 x y v u _ I2 r1 r2 q2) ?_
  rintro e s3 ⟨z, H3, I3, r3, k, rfl, q3⟩
  cases r3
  refine wpAny_truthy_bool ?_
  cases k with
  | false => exact ite_ff ⟨.bl false, H3, I3, rfl, q3⟩
  | true =>
    refine ite_tt (chain_link (L2.thn (hc.run pins s3 σ H3 _ I3 q3) ?_))
    rintro w s4 ⟨z, H4, I4, r4, q4⟩
    refine L2.thn (ho' pins s4 σ H4 y z u w _ I4 r2 r4 q4) ?_
    rintro e s5 ⟨z2, H5, I5, r5, k, rfl, q5⟩
    cases r5
    refine wpAny_truthy_bool ?_
    cases k with
    | false => exact ite_ff ⟨.bl false, H5, I5, rfl, q5⟩
    | true =>
      refine ite_tt (chain_last (L2.thn (hd.run pins s5 σ H5 _ I5 q5) ?_))
      rintro w' s6 ⟨z', H6, I6, r6, q6⟩
      exact ho'' pins s6 σ H6 z z' w w' Q I6 r4 r6 q6
theorem pt_ch3 {op op' op'' : CmpOp} {r r' r'' : L2.R2} (ho : OpR X (compareOp op) r) (ho' : OpR X (compareOp op') r') (ho'' : OpR X (compareOp op'') r'') (ha : PE X a ta) (hb : PE X b tb) (hc : PE X c tc) (hd : PE X d td)
    (hm : lastMarks [op, op', op''] [b, c, d] = false) : PT X (.Compare a [op, op', op''] [b, c, d] pos) (L2.tTest (tCh3 r r' r'' ta tb tc td)) := by
  constructor
  intro pins s σ H Q I h
  refine isTrue_chain (L2.thn (ha.run pins s σ H _ I h) ?_) hm
  rintro v s1 ⟨x, H1, I1, r1, q1⟩
  refine test_link (L2.thn (hb.run pins s1 σ H1 _ I1 q1) ?_)
  rintro u s2 ⟨y, H2, I2, r2, q2⟩
  refine L2.thn (ho pins s2 σ H2 x y v u _ I2 r1 r2 q2) ?_
  rintro e s3 ⟨z, H3, I3, r3, k, rfl, q3⟩
  cases r3
  refine wpAny_truthy_bool ?_
  cases k with
  | false =>
    obtain ⟨k', e', q'⟩ := q3
    cases e'
    exact ite_ff ⟨H3, I3, q'⟩
  | true =>
    refine ite_tt (test_link (L2.thn (hc.run pins s3 σ H3 _ I3 q3) ?_))
    rintro w s4 ⟨z, H4, I4, r4, q4⟩
    refine L2.thn (ho' pins s4 σ H4 y z u w _ I4 r2 r4 q4) ?_
    rintro e s5 ⟨z2, H5, I5, r5, k, rfl, q5⟩
    cases r5
    refine wpAny_truthy_bool ?_
    cases k with
    | false =>
      obtain ⟨k', e', q'⟩ := q5
      cases e'
      exact ite_ff ⟨H5, I5, q'⟩
    | true =>
      refine ite_tt (test_last (L2.thn (hd.run pins s5 σ H5 _ I5 q5) ?_))
      rintro w' s6 ⟨z', H6, I6, r6, q6⟩
      refine L2.thn (ho'' pins s6 σ H6 z z' w w' _ I6 r4 r6 q6) ?_
      rintro e s7 ⟨z3, H7, I7, r7, k2, rfl, q7⟩
      cases r7
      exact wpAny_truthy_bool ⟨H7, I7, q7⟩
end
section
variable {X : Cx} {G : Gx}
theorem no_marks3 {op op' op'' : CmpOp} {b c d : Expr} (h : isSet d = false) : lastMarks [op, op', op''] [b, c, d] = false := no_marks (o := op') (p := op'') (b := c) h
theorem se_ch3 {o p q : Cop} {op op2 op3 : CmpOp} {fa fb fd fe : Env → C → R D} {na nb nd ne n : Bool} {a b d e : Expr} {pos : Pos} (hK : X.K = G.K) (hu : X.A.units + 64 < cLine) (ho : copE o op = true) (hp : copE p op2 = true) (hq : copE q op3 = true) (ha : PE X a (tEv G na fa)) (hb : PE X b (tEv G nb fb)) (hd : PE X d (tEv G nd fd)) (he : PE X e (tEv G ne fe)) (hm : isSet e = false) :
    PE X (.Compare a [op, op2, op3] [b, d, e] pos) (tEv G n fun env c => (fa env c).bind fun x c => (fb env c).bind fun y c => match cmpv o x y with
      | some true => (fd env c).bind fun z c => match cmpv p y z with
        | some true => (fe env c).bind fun u c => lift ((cmpv q z u).map .bl) c
        | some false => .ok (.bl false) c
        | none => .no
      | some false => .ok (.bl false) c
      | none => .no) :=
  pe_imp (pe_ch3 (cop_ok (G := G) hK hu ho) (cop_ok (G := G) hK hu hp) (cop_ok (G := G) hK hu hq) ha hb hd he (no_marks3 hm)) fun σ H Q ⟨env, c, R, h⟩ => ⟨env, c, R, rb_post h fun x c1 v H1 R1 s1 rb1 _ _ h1 => ⟨env, c1, R1, rb_post (h1.back R1 s1) fun y c2 v2 H2 R2 s2 rb2 _ _ h2 => by
    have h2 := Post.back R2 s2 h2
    refine ⟨env, c2, σ, x, y, true, R2, rb1.keep s2 R1.w, rb2, ?_⟩
    unfold bD
    cases e : cmpv o x y with
    | none => rw [e] at h2; exact h2.elim
    | some k =>
      rw [e] at h2
      intro v3 H3 R3 s3 rb3 _ _
      refine ⟨k, rb_bl rb3, ?_⟩
      cases k with
      | false =>
        rw [if_neg Bool.false_ne_true]
        exact (Post.back R3 s3 h2).give R3 (.bl _) nown_bl
      | true =>
        rw [if_pos rfl]
        refine ⟨env, c2, R3, rb_post (Post.back R3 s3 h2) fun z c4 v4 H4 R4 s4 rb4 _ _ h4 => ?_⟩
        have h4 := Post.back R4 s4 h4
        refine ⟨env, c4, σ, y, z, true, R4, rb2.keep (s3.trans s4) R2.w, rb4, ?_⟩
        show Post G true env σ H4 _ (lift ((cmpv p y z).map D.bl) c4)
        cases e : cmpv p y z with
        | none => rw [e] at h4; exact h4.elim
        | some k =>
          rw [e] at h4
          intro v5 H5 R5 s5 rb5 _ _
          refine ⟨k, rb_bl rb5, ?_⟩
          cases k with
          | false =>
            rw [if_neg Bool.false_ne_true]
            exact (Post.back R5 s5 h4).give R5 (.bl _) nown_bl
          | true =>
            rw [if_pos rfl]
            refine ⟨env, c4, R5, rb_post (Post.back R5 s5 h4) fun u c6 v6 H6 R6 s6 rb6 _ _ h6 => ?_⟩
            exact ⟨env, c6, σ, z, u, n, R6, rb4.keep (s5.trans s6) R4.w, rb6, h6.back R6 s6⟩⟩⟩
theorem st_ch3 {o p q : Cop} {op op2 op3 : CmpOp} {fa fb fd fe : Env → C → R D} {na nb nd ne : Bool} {a b d e : Expr} {pos : Pos} (hK : X.K = G.K) (hu : X.A.units + 64 < cLine) (ho : copE o op = true) (hp : copE p op2 = true) (hq : copE q op3 = true) (ha : PE X a (tEv G na fa)) (hb : PE X b (tEv G nb fb)) (hd : PE X d (tEv G nd fd)) (he : PE X e (tEv G ne fe)) (hm : isSet e = false) :
    PT X (.Compare a [op, op2, op3] [b, d, e] pos) (tEvT G fun env c => (fa env c).bind fun x c => (fb env c).bind fun y c => match cmpv o x y with
      | some true => (fd env c).bind fun z c => match cmpv p y z with
        | some true => (fe env c).bind fun u c => lift (cmpv q z u) c
        | some false => .ok false c
        | none => .no
      | some false => .ok false c
      | none => .no) :=
  pt_imp (pt_ch3 (cop_ok (G := G) hK hu ho) (cop_ok (G := G) hK hu hp) (cop_ok (G := G) hK hu hq) ha hb hd he (no_marks3 hm)) fun σ H Q ⟨env, c, R, h⟩ => ⟨env, c, R, rb_post_t h fun x c1 v H1 R1 s1 rb1 _ _ h1 => ⟨env, c1, R1, rb_post_t (h1.back s1) fun y c2 v2 H2 R2 s2 rb2 _ _ h2 => by
    have h2 := PostB.back s2 h2
    refine ⟨env, c2, σ, x, y, true, R2, rb1.keep s2 R1.w, rb2, ?_⟩
    unfold bD
    cases e : cmpv o x y with
    | none => rw [e] at h2; exact h2.elim
    | some k =>
      rw [e] at h2
      intro v3 H3 R3 s3 rb3 _ _
      refine ⟨k, rb_bl rb3, ?_⟩
      cases k with
      | false =>
        rw [if_neg Bool.false_ne_true]
        exact ⟨false, rfl, h2 H3 R3 s3⟩
      | true =>
        rw [if_pos rfl]
        refine ⟨env, c2, R3, rb_post_t (PostB.back s3 h2) fun z c4 v4 H4 R4 s4 rb4 _ _ h4 => ?_⟩
        have h4 := PostB.back s4 h4
        refine ⟨env, c4, σ, y, z, true, R4, rb2.keep (s3.trans s4) R2.w, rb4, ?_⟩
        show Post G true env σ H4 _ (lift ((cmpv p y z).map D.bl) c4)
        cases e : cmpv p y z with
        | none => rw [e] at h4; exact h4.elim
        | some k =>
          rw [e] at h4
          intro v5 H5 R5 s5 rb5 _ _
          refine ⟨k, rb_bl rb5, ?_⟩
          cases k with
          | false =>
            rw [if_neg Bool.false_ne_true]
            exact ⟨false, rfl, h4 H5 R5 s5⟩
          | true =>
            rw [if_pos rfl]
            refine ⟨env, c4, R5, rb_post_t (PostB.back s5 h4) fun u c6 v6 H6 R6 s6 rb6 _ _ h6 => ?_⟩
            obtain ⟨k6, e6, h7⟩ := lift_some h6 fun z => z
            refine ⟨env, c6, σ, z, u, true, R6, rb4.keep (s5.trans s6) R4.w, rb6, ?_⟩
            show Post G true env σ H6 _ (lift ((cmpv q z u).map D.bl) c6)
            rw [e6]
            intro v7 H7 R7 s7 rb7 _ _
            exact ⟨k6, rb_bl rb7, h7 H7 R7 (s6.trans s7)⟩⟩⟩
/-! ### fused built-ins -/
theorem Rps.rev {K : PySem.W.Frag} {fa : Nat → Option Addr} {ca : Option Addr} {A : Addr → Prop} {H : Hp} : ∀ {vs : List V} {ds : List D}, Rps K fa ca A H vs ds → Rps K fa ca A H vs.reverse ds.reverse
  | _, _, .nil => .nil
  | _, _, .cons r t => by rw [List.reverse_cons, List.reverse_cons]; exact (Rps.rev t).app (.cons r .nil)
theorem rng_eq (a b : Int) : L2.rgV a b = ((List.range (b - a).toNat).map fun (k : Nat) => a + (k : Int)).map V.int := by unfold L2.rgV; rw [List.map_map]; rfl
theorem rngI_eq' (a : Int) (n : Nat) : rngI a n = ((List.range n).map fun (k : Nat) => a + (k : Int)).map D.int := by unfold rngI; rw [List.map_map]; rfl
theorem mem_ded {k : Int} : ∀ {l : List Int}, k ∈ dedI l ↔ k ∈ l
  | [] => Iff.rfl
  | x :: r => by
    unfold dedI
    have ih := mem_ded (k := k) (l := r)
    split
    · rename_i h
      rw [ih, List.mem_cons]
      exact ⟨.inr, fun z => z.elim (fun e => e ▸ h) id⟩
    · rw [List.mem_cons, List.mem_cons, ih]
theorem nodup_ded : ∀ {l : List Int}, (dedI l).Nodup
  | [] => List.nodup_nil
  | x :: r => by
    unfold dedI
    split
    · exact nodup_ded
    · rename_i h
      exact List.nodup_cons.mpr ⟨fun z => h (mem_ded.mp z), nodup_ded⟩
theorem sortI_lt {l : List Int} (h : l.Nodup) : (sortI l).Pairwise (· < ·) := L2.lt_of_le_nodup _ (sortI_sorted l) ((sortI_perm l).nodup_iff.mpr h)
theorem strict_uniq : ∀ {l m : List Int}, l.Pairwise (· < ·) → m.Pairwise (· < ·) → (∀ k, k ∈ l ↔ k ∈ m) → l = m
  | [], [], _, _, _ => rfl
  | [], y :: m, _, _, h => by have := (h y).mpr List.mem_cons_self; cases this
  | x :: l, [], _, _, h => by have := (h x).mp List.mem_cons_self; cases this
  | x :: l, y :: m, hl, hm, h => by
    obtain ⟨l1, l2⟩ := List.pairwise_cons.mp hl
    obtain ⟨m1, m2⟩ := List.pairwise_cons.mp hm
    have e : x = y := by
      have a := (h x).mp List.mem_cons_self
      have b := (h y).mpr List.mem_cons_self
      rcases List.mem_cons.mp a with a | a
      · exact a
      · rcases List.mem_cons.mp b with b | b
        · exact b.symm
        · have c1 := m1 x a
          have c2 := l1 y b
          omega
    subst e
    rw [strict_uniq l2 m2 fun k => ?_]
    constructor
    · intro hk
      rcases List.mem_cons.mp ((h k).mp (List.mem_cons_of_mem _ hk)) with z | z
      · have := l1 k hk; omega
      · exact z
    · intro hk
      rcases List.mem_cons.mp ((h k).mpr (List.mem_cons_of_mem _ hk)) with z | z
      · have := m1 k hk; omega
      · exact z
/-- the text of a fused built-in of one value: its one hole -/
def p1X (o : P1) (p : Expr) : Option (Expr × List Str) := match o with
  | .rev => match p with
    | .Subscript x (.Slice none none (some (.UnaryOp .USub (.Constant (.int m) _ _) _)) _) _ => if m = 1 then some (x, []) else none
    | _ => none
  | .sset => match p with
    | .Call (.Name y _) [.Call (.Name z _) [x] [] _] [] _ => if y = "sorted" ∧ z = "set" then some (x, ["sorted", "set"]) else none
    | _ => none
  | .lrng => match p with
    | .Call (.Name y _) [.Call (.Name z _) [x] [] _] [] _ => if y = "list" ∧ z = "range" then some (x, ["list", "range"]) else none
    | _ => none
  | .trng => match p with
    | .Call (.Name y _) [.Call (.Name z _) [x] [] _] [] _ => if y = "tuple" ∧ z = "range" then some (x, ["tuple", "range"]) else none
    | _ => none
def p2X (o : P2) (p : Expr) : Option (Expr × Expr × List Str) := match o with
  | .lrng => match p with
    | .Call (.Name y _) [.Call (.Name z _) [a, b] [] _] [] _ => if y = "list" ∧ z = "range" then some (a, b, ["list", "range"]) else none
    | _ => none
  | .trng => match p with
    | .Call (.Name y _) [.Call (.Name z _) [a, b] [] _] [] _ => if y = "tuple" ∧ z = "range" then some (a, b, ["tuple", "range"]) else none
    | _ => none
theorem star_call {x : Expr} {es : List Expr} {ks : List Keyword} {pos : Pos} {env : PySem.Env} : starEach [.Call x es ks pos] env = (false, eval (.Call x es ks pos) env) :: starEach [] env := rfl
theorem se_p1 {o : P1} {p a : Expr} {ns : List Str} {fa : Env → C → R D} {na nb : Bool} (hK : X.K = G.K) (hc : X.calm = true) (hx : p1X o p = some (a, ns)) (hg : ∀ n ∈ ns, Gl X n ∧ X.mg n = none) (ha : PE X a (tEv G na fa)) (hs : isStar a = false) :
    PE X p (tEv G nb fun env c => (fa env c).bind fun x c => lift (p1v o x) c) := by
  have sa := star_cons (es := []) (env := X.env) hs
  cases o with
  | rev =>
    unfold p1X at hx
    simp only at hx
    split at hx <;> first | (cases hx; done) | skip
    split at hx <;> first | (cases hx; done) | skip
    rename_i e
    subst e
    cases hx
    refine pe_imp (pe_revA ha) fun σ H Q ⟨env, c, R, h⟩ => ⟨env, c, R, rb_post h fun d c1 v H1 R1 s1 rb1 _ _ h1 => ?_⟩
    obtain ⟨d2, e, hp⟩ := post_lift (h1.back R1 s1)
    cases d <;> first | (cases e; done) | skip
    · cases e
      obtain ⟨a, vs, rfl, hq, r⟩ := rb_tup rb1
      exact ⟨a, vs, rfl, .inr ⟨by rw [hK]; exact hq, fun p hp' => hp.newTup R1 r.rev hp'⟩⟩
    · cases e
      obtain ⟨a, vs, rfl, hq, r⟩ := rb_lst rb1
      exact ⟨a, vs, rfl, .inl ⟨.inl (.inl hq), fun p hp' => hp.newList R1 r.rev hp'⟩⟩
    · cases e
      obtain ⟨a, vs, rfl, hq, r⟩ := rb_own rb1
      exact ⟨a, vs, rfl, .inl ⟨.inl (.inl hq), fun p hp' => hp.newList R1 r.rev hp'⟩⟩
  | sset =>
    unfold p1X at hx
    simp only at hx
    split at hx <;> first | (cases hx; done) | skip
    split at hx <;> first | (cases hx; done) | skip
    rename_i e
    obtain ⟨e1, e2⟩ := e
    subst e1; subst e2
    cases hx
    obtain ⟨g1, m1⟩ := hg "sorted" (by simp)
    obtain ⟨g2, m2⟩ := hg "set" (by simp)
    refine pe_imp (pe_sortedSet hc g1 m1 g2 m2 ha sa) fun σ H Q ⟨env, c, R, h⟩ => ⟨env, c, R, rb_post h fun d c1 v H1 R1 s1 rb1 _ _ h1 => ?_⟩
    obtain ⟨d2, e, hp⟩ := post_lift (h1.back R1 s1)
    have e : listF (fun ds => match intsD ds with | some l => (if l.length < 64 then some (.own ((sortI (dedI l)).map .int)) else none) | none => none) d = some d2 := by cases d <;> exact e
    obtain ⟨ds, e1, e2, n⟩ := listF_some e
    obtain ⟨a, vs, rfl, r2, hq⟩ := sqlist rb1 e1 n
    split at e2
    · rename_i l e3
      obtain ⟨hl, rfl⟩ := ite_some e2
      rw [r2.ints e3] at hq
      refine ⟨a, l, rfl, by rw [hK]; exact hq, hl, fun ms p o1 o2 hp' => ?_⟩
      have : ms = sortI (dedI l) := strict_uniq o1 (sortI_lt nodup_ded) fun k => (o2 k).trans (mem_ded.symm.trans (sortI_perm _).mem_iff.symm)
      rw [this]
      exact hp.newList R1 (Rps.of_ints _) hp'
    · cases e2
  | lrng =>
    unfold p1X at hx
    simp only at hx
    split at hx <;> first | (cases hx; done) | skip
    split at hx <;> first | (cases hx; done) | skip
    rename_i e
    obtain ⟨e1, e2⟩ := e
    subst e1; subst e2
    cases hx
    obtain ⟨g1, m1⟩ := hg "list" (by simp)
    obtain ⟨g2, m2⟩ := hg "range" (by simp)
    refine pe_imp (L2.pe_listRg hc g1 m1 (L2.prg_1 g2 m2 ha sa) star_call) fun σ H Q ⟨env, c, R, h⟩ => ⟨env, c, R, rb_post h fun d c1 v H1 R1 s1 rb1 _ _ h1 => ?_⟩
    obtain ⟨d2, e, hp⟩ := post_lift (h1.back R1 s1)
    cases d <;> first | (cases e; done) | skip
    obtain ⟨hl, rfl⟩ := ite_some e
    refine ⟨_, rb_int rb1, ⟨by omega, by omega, by omega, by omega, by omega⟩, fun p hp' => ?_⟩
    rw [rng_eq, Int.sub_zero]
    rw [rngI_eq'] at hp
    exact hp.newList R1 (Rps.of_ints _) hp'
  | trng =>
    unfold p1X at hx
    simp only at hx
    split at hx <;> first | (cases hx; done) | skip
    split at hx <;> first | (cases hx; done) | skip
    rename_i e
    obtain ⟨e1, e2⟩ := e
    subst e1; subst e2
    cases hx
    obtain ⟨g1, m1⟩ := hg "tuple" (by simp)
    obtain ⟨g2, m2⟩ := hg "range" (by simp)
    refine pe_imp (L2.pe_tupRg hc g1 m1 (L2.prg_1 g2 m2 ha sa) star_call) fun σ H Q ⟨env, c, R, h⟩ => ⟨env, c, R, rb_post h fun d c1 v H1 R1 s1 rb1 _ _ h1 => ?_⟩
    obtain ⟨d2, e, hp⟩ := post_lift (h1.back R1 s1)
    cases d <;> first | (cases e; done) | skip
    obtain ⟨hl, rfl⟩ := ite_some e
    refine ⟨_, rb_int rb1, ⟨by omega, by omega, by omega, by omega, by omega⟩, fun p hp' => ?_⟩
    rw [rng_eq, Int.sub_zero]
    rw [rngI_eq'] at hp
    exact hp.newTup R1 (Rps.of_ints _) hp'
def p2D : P2 → List D → D
  | .lrng, l => .own l
  | .trng, l => .tup l
theorem se_p2 {o : P2} {p a b : Expr} {ns : List Str} {fa fb : Env → C → R D} {na nb n : Bool} (hc : X.calm = true) (hx : p2X o p = some (a, b, ns)) (hg : ∀ n ∈ ns, Gl X n ∧ X.mg n = none) (ha : PE X a (tEv G na fa)) (hb : PE X b (tEv G nb fb)) (hs : isStar a = false) (hs2 : isStar b = false) :
    PE X p (tEv G n fun env c => (fa env c).bind fun x c => (fb env c).bind fun y c => lift (p2v o x y) c) := by
  have sa := star_cons (es := [b]) (env := X.env) hs
  have sb := star_cons (es := []) (env := X.env) hs2
  have sp : ∀ pos, (backTo pos (starEach [b] X.env)).any (·.1) = false := fun pos => star_back (by simp [hs2])
  have two : ∀ {x y d : D}, p2v o x y = some d → ∃ i j : Int, x = .int i ∧ y = .int j ∧ (j < 1000000 ∧ -1000000 < j ∧ i < 1000000 ∧ -1000000 < i) ∧ d = p2D o (rngI i (j - i).toNat) := fun {x y d} e => by
    cases x <;> cases y <;> first | (cases e; done) | skip
    unfold p2v at e
    simp only at e
    split at e
    · cases o <;> cases e <;> exact ⟨_, _, rfl, rfl, ‹_›, rfl⟩
    · cases e
  cases o with
  | lrng =>
    unfold p2X at hx
    simp only at hx
    split at hx <;> first | (cases hx; done) | skip
    split at hx <;> first | (cases hx; done) | skip
    rename_i e
    obtain ⟨e1, e2⟩ := e
    subst e1; subst e2
    cases hx
    obtain ⟨g1, m1⟩ := hg "list" (by simp)
    obtain ⟨g2, m2⟩ := hg "range" (by simp)
    refine pe_imp (L2.pe_listRg hc g1 m1 (L2.prg_2 g2 m2 ha hb sa sb (sp _)) star_call) fun σ H Q ⟨env, c, R, h⟩ => ⟨env, c, R, rb_post h fun d c1 v H1 R1 s1 rb1 _ _ h1 => ⟨env, c1, R1, rb_post (h1.back R1 s1) fun d2 c2 v2 H2 R2 s2 rb2 _ _ h2 => ?_⟩⟩
    obtain ⟨d3, e, hp⟩ := post_lift (h2.back R2 s2)
    obtain ⟨i, j, rfl, rfl, hl, rfl⟩ := two e
    refine ⟨i, j, rb_int (rb1.keep s2 R1.w), rb_int rb2, ⟨by omega, by omega, by omega, by omega, by omega⟩, fun p hp' => ?_⟩
    rw [rng_eq]
    simp only [rngI_eq', p2D] at hp
    exact hp.newList R2 (Rps.of_ints _) hp'
  | trng =>
    unfold p2X at hx
    simp only at hx
    split at hx <;> first | (cases hx; done) | skip
    split at hx <;> first | (cases hx; done) | skip
    rename_i e
    obtain ⟨e1, e2⟩ := e
    subst e1; subst e2
    cases hx
    obtain ⟨g1, m1⟩ := hg "tuple" (by simp)
    obtain ⟨g2, m2⟩ := hg "range" (by simp)
    refine pe_imp (L2.pe_tupRg hc g1 m1 (L2.prg_2 g2 m2 ha hb sa sb (sp _)) star_call) fun σ H Q ⟨env, c, R, h⟩ => ⟨env, c, R, rb_post h fun d c1 v H1 R1 s1 rb1 _ _ h1 => ⟨env, c1, R1, rb_post (h1.back R1 s1) fun d2 c2 v2 H2 R2 s2 rb2 _ _ h2 => ?_⟩⟩
    obtain ⟨d3, e, hp⟩ := post_lift (h2.back R2 s2)
    obtain ⟨i, j, rfl, rfl, hl, rfl⟩ := two e
    refine ⟨i, j, rb_int (rb1.keep s2 R1.w), rb_int rb2, ⟨by omega, by omega, by omega, by omega, by omega⟩, fun p hp' => ?_⟩
    rw [rng_eq]
    simp only [rngI_eq', p2D] at hp
    exact hp.newTup R2 (Rps.of_ints _) hp'
end
end PX

/-! # PX: targets, what is walked, comprehensions -/
namespace PX
open PySem PySem.Spec PyProof.Rows
open L2 (V HO Hp upd SqT SqL Rd TE TT TA TS TI TG Cx PE PT PA PS PSs PI PG Inv upd_same upd_ne OpR CallR IxR RelV Vals Room Vis Gl Loc)

section
variable {G : Gx} {env env' : Env} {c c' : C} {σ σ' : Sl} {H H' : Hp}
theorem get_set {α : Type} {l : List (Option α)} {i j : Nat} {x : Option α} {y : α} (h : (l.set i x)[j]? = some (some y)) : (j = i ∧ x = some y) ∨ (j ≠ i ∧ l[j]? = some (some y)) := by
  by_cases e : j = i
  · subst e
    by_cases hj : j < l.length
    · rw [List.getElem?_set_self hj] at h
      exact .inl ⟨rfl, Option.some.inj h⟩
    · rw [List.getElem?_eq_none (by simpa using hj)] at h
      cases h
  · rw [List.getElem?_set_ne (Ne.symm e)] at h
    exact .inr ⟨e, h⟩
theorem set_get {α : Type} {l : List (Option α)} {i : Nat} {x : Option α} (h : i < l.length) : (l.set i x)[i]? = some x := List.getElem?_set_self h
theorem lt_of_get {α : Type} {l : List α} {i : Nat} {x : α} (h : l[i]? = some x) : i < l.length := (List.getElem?_eq_some_iff.mp h).1
/-- places owned, where a slot takes a value that owns nothing -/
theorem Av.set {i : Nat} {o : Option D} {w : Option V} (n : ∀ ds, o ≠ some (.own ds)) : ∀ a, Av G (env.set i o) (σ.set i w) a → Av G env σ a := fun a h => by
  rcases h with h | ⟨j, ds, e1, e2⟩
  · exact .inl h
  · rcases get_set e1 with ⟨_, z⟩ | ⟨hj, e1⟩
    · exact absurd z (n ds)
    · refine .inr ⟨j, ds, e1, ?_⟩
      rwa [List.getElem?_set_ne (Ne.symm hj)] at e2
/-- a slot takes a value that owns nothing -/
theorem Rel.set (R : Rel G env c σ H) {i : Nat} {d : D} {v : V} (r : Rp G.K G.fa G.ca (Av G env σ) H v d) (n : ∀ ds, d ≠ .own ds) : Rel G (env.set i (some d)) c (σ.set i (some v)) H := by
  have ha := Av.set (G := G) (env := env) (σ := σ) (i := i) (o := some d) (w := some v) fun ds z => n ds (Option.some.inj z)
  refine ⟨R.inh, by simpa using R.len, fun j d' e n' => ?_, fun j ds e => ?_, fun j k ds es a e1 e2 e3 e4 => ?_⟩
  · rcases get_set e with ⟨hj, z⟩ | ⟨hj, e⟩
    · subst hj
      cases z
      refine ⟨v, set_get ?_, r.anti ha⟩
      have := lt_of_get e
      rw [List.length_set] at this
      rw [← R.len]; exact this
    · obtain ⟨w, h1, h2⟩ := R.val j d' e n'
      exact ⟨w, by rw [List.getElem?_set_ne (Ne.symm hj)]; exact h1, h2.anti ha⟩
  · rcases get_set e with ⟨hj, z⟩ | ⟨hj, e⟩
    · exact absurd (Option.some.inj z) (n ds)
    · obtain ⟨a, vs, h1, h2, h3, h4, h5⟩ := R.own j ds e
      exact ⟨a, vs, by rw [List.getElem?_set_ne (Ne.symm hj)]; exact h1, h2, h3, h4, h5.anti ha⟩
  · rcases get_set e1 with ⟨hj, z⟩ | ⟨hj, e1⟩
    · exact absurd (Option.some.inj z) (n ds)
    · rcases get_set e2 with ⟨hk, z⟩ | ⟨hk, e2⟩
      · exact absurd (Option.some.inj z) (n es)
      · rw [List.getElem?_set_ne (Ne.symm hj)] at e3
        rw [List.getElem?_set_ne (Ne.symm hk)] at e4
        exact R.inj j k ds es a e1 e2 e3 e4
/-- a slot is forgotten -/
theorem Rel.unset (R : Rel G env c σ H) {i : Nat} : Rel G (env.set i none) c (σ.set i none) H := by
  have ha := Av.set (G := G) (env := env) (σ := σ) (i := i) (o := none) (w := none) fun ds z => by cases z
  refine ⟨R.inh, by simpa using R.len, fun j d' e n' => ?_, fun j ds e => ?_, fun j k ds es a e1 e2 e3 e4 => ?_⟩
  · rcases get_set e with ⟨hj, z⟩ | ⟨hj, e⟩
    · cases z
    · obtain ⟨w, h1, h2⟩ := R.val j d' e n'
      exact ⟨w, by rw [List.getElem?_set_ne (Ne.symm hj)]; exact h1, h2.anti ha⟩
  · rcases get_set e with ⟨hj, z⟩ | ⟨hj, e⟩
    · cases z
    · obtain ⟨a, vs, h1, h2, h3, h4, h5⟩ := R.own j ds e
      exact ⟨a, vs, by rw [List.getElem?_set_ne (Ne.symm hj)]; exact h1, h2, h3, h4, h5.anti ha⟩
  · rcases get_set e1 with ⟨hj, z⟩ | ⟨hj, e1⟩
    · cases z
    · rcases get_set e2 with ⟨hk, z⟩ | ⟨hk, e2⟩
      · cases z
      · rw [List.getElem?_set_ne (Ne.symm hj)] at e3
        rw [List.getElem?_set_ne (Ne.symm hk)] at e4
        exact R.inj j k ds es a e1 e2 e3 e4
theorem Rel.wipe (R : Rel G env c σ H) : ∀ vs : List Nat, Rel G (wipes env vs) c (L2.wipe σ vs) H
  | [] => R
  | v :: vs => (Rel.wipe R vs).unset
theorem Av.wipe : ∀ (vs : List Nat) a, Av G (wipes env vs) (L2.wipe σ vs) a → Av G env σ a
  | [], _, h => h
  | v :: vs, a, h => Av.wipe vs a (Av.set (fun ds z => by cases z) a h)
/-- a new list of one's own in a slot -/
theorem Rel.setOwn (R : Rel G env c σ H) {i : Nat} {ds : List D} {vs : List V} {a : Addr} (hi : i < env.length) (ha : H a = some (.lst vs)) (r : Rps G.K G.fa G.ca (Av G env σ) H vs ds) {Hb : Hp} {cb : C} (Rb : Rel G env cb σ Hb) (s : Stp G.ca Hb H) (hn : Nw Hb a)
    (r' : Rps G.K G.fa G.ca (fun b => Av G env σ b ∨ b = a) H vs ds) :
    Rel G (env.set i (some (.own ds))) c (σ.set i (some (.ref a))) H := by
  have hA : ∀ b, Av G (env.set i (some (.own ds))) (σ.set i (some (.ref a))) b → Av G env σ b ∨ b = a := fun b h => by
    rcases h with h | ⟨j, es, e1, e2⟩
    · exact .inl (.inl h)
    · rcases get_set e1 with ⟨hj, z⟩ | ⟨hj, e1⟩
      · subst hj
        rw [set_get (by rw [← R.len]; exact hi)] at e2
        exact .inr (V.ref.inj (Option.some.inj (Option.some.inj e2))).symm
      · refine .inl (.inr ⟨j, es, e1, ?_⟩)
        rwa [List.getElem?_set_ne (Ne.symm hj)] at e2
  have nca : some a ≠ G.ca := fun e => by
    obtain ⟨ys, q⟩ := Rb.inh.cup.lst a e.symm
    obtain ⟨ps, z⟩ := hn _ q
    cases z
  have nO : ¬ G.O a := fun z => by
    obtain ⟨ys, q⟩ := Rb.inh.ol a z
    obtain ⟨ps, z⟩ := hn _ q
    cases z
  have grow : ∀ {v d}, Rp G.K G.fa G.ca (Av G env σ) Hb v d → Rp G.K G.fa G.ca (Av G (env.set i (some (.own ds))) (σ.set i (some (.ref a)))) H v d := fun q =>
    ((q.grow hn).keep s fun b e => ⟨.inl (Rb.w b e).1, (Rb.w b e).2⟩).anti hA
  have grows : ∀ {v d}, Rps G.K G.fa G.ca (Av G env σ) Hb v d → Rps G.K G.fa G.ca (Av G (env.set i (some (.own ds))) (σ.set i (some (.ref a)))) H v d := fun q =>
    ((q.grow hn).keep s fun b e => ⟨.inl (Rb.w b e).1, (Rb.w b e).2⟩).anti hA
  have own_ne : ∀ (j : Nat) (es : List D) (b : Addr), env[j]? = some (some (.own es)) → σ[j]? = some (some (.ref b)) → b ≠ a := fun j es b e1 e2 z => by
    obtain ⟨a', vs', h1, h2, _⟩ := Rb.own j es e1
    rw [e2] at h1
    cases h1
    exact hn.ne h2 lst_nt z
  refine ⟨R.inh, by simpa using R.len, fun j d' e n' => ?_, fun j es e => ?_, fun j k ds' es b e1 e2 e3 e4 => ?_⟩
  · rcases get_set e with ⟨hj, z⟩ | ⟨hj, e⟩
    · cases z
      exact absurd rfl (n' _)
    · obtain ⟨w, h1, h2⟩ := Rb.val j d' e n'
      exact ⟨w, by rw [List.getElem?_set_ne (Ne.symm hj)]; exact h1, grow h2⟩
  · rcases get_set e with ⟨hj, z⟩ | ⟨hj, e⟩
    · subst hj
      cases z
      refine ⟨a, vs, set_get (by rw [← R.len]; exact hi), ha, nO, ?_, r'.anti hA⟩
      exact hn.back Rb.inh.stp nca
    · obtain ⟨b, ws, h1, h2, h3, h4, h5⟩ := Rb.own j es e
      exact ⟨b, ws, by rw [List.getElem?_set_ne (Ne.symm hj)]; exact h1, s _ _ h2 lst_nt (Rb.nca h3), h3, h4, grows h5⟩
  · rcases get_set e1 with ⟨hj, z⟩ | ⟨hj, e1'⟩
    · rcases get_set e2 with ⟨hk, z2⟩ | ⟨hk, e2'⟩
      · rw [hj, hk]
      · subst hj
        rw [set_get (by rw [← R.len]; exact hi)] at e3
        cases e3
        rw [List.getElem?_set_ne (Ne.symm hk)] at e4
        exact absurd rfl (own_ne k es _ e2' e4)
    · rw [List.getElem?_set_ne (Ne.symm hj)] at e3
      rcases get_set e2 with ⟨hk, z2⟩ | ⟨hk, e2⟩
      · subst hk
        rw [set_get (by rw [← R.len]; exact hi)] at e4
        cases e4
        exact absurd rfl (own_ne j ds' _ e1' e3)
      · rw [List.getElem?_set_ne (Ne.symm hk)] at e4
        exact R.inj j k ds' es b e1' e2 e3 e4
end

/-! ### targets -/
mutual
def slots : Tg → List Nat
  | .n i => [i]
  | .t l => slotss l
def slotss : List Tg → List Nat
  | [] => []
  | t :: l => slots t ++ slotss l
end
/-- only these slots change -/
def Only (l : List Nat) (σ σ' : Sl) : Prop := σ'.length = σ.length ∧ ∀ i, i ∉ l → σ'[i]? = σ[i]?
theorem wipe_eq : ∀ (vs : List Nat) {σ σ' : Sl}, σ'.length = σ.length → (∀ i, i ∉ vs → σ'[i]? = σ[i]?) → L2.wipe σ' vs = L2.wipe σ vs := fun vs σ σ' hl h => by
  have key : ∀ (vs : List Nat) (σ : Sl) (i : Nat), (L2.wipe σ vs)[i]? = if i ∈ vs then (σ[i]?).map fun _ => none else σ[i]? := by
    intro vs
    induction vs with
    | nil => intro σ i; simp [L2.wipe]
    | cons v vs ih =>
      intro σ i
      show ((L2.wipe σ vs).set v none)[i]? = _
      by_cases e : i = v
      · subst e
        rw [if_pos List.mem_cons_self]
        by_cases hi : i < σ.length
        · rw [List.getElem?_set_self (by rw [L2.wipe_length]; exact hi), List.getElem?_eq_getElem hi]
          rfl
        · rw [List.getElem?_eq_none (by rw [List.length_set, L2.wipe_length]; omega), List.getElem?_eq_none (by omega)]
          rfl
      · rw [List.getElem?_set_ne (Ne.symm e), ih]
        simp [e]
  apply List.ext_getElem?
  intro i
  rw [key, key]
  by_cases hi : i ∈ vs
  · rw [if_pos hi, if_pos hi]
    by_cases hlt : i < σ.length
    · rw [List.getElem?_eq_getElem hlt, List.getElem?_eq_getElem (by omega)]
      rfl
    · rw [List.getElem?_eq_none (by omega), List.getElem?_eq_none (by omega)]
  · rw [if_neg hi, if_neg hi, h i hi]
def tTg (G : Gx) (l : List Nat) (f : D → Env → Option Env) : TG := fun v σ H Q => ∃ env c d, Rel G env c σ H ∧ Rp G.K G.fa G.ca (Av G env σ) H v d ∧ ∃ e2, f d env = some e2 ∧ ∀ σ', Rel G e2 c σ' H → Only l σ σ' → (∀ a, Av G e2 σ' a → Av G env σ a) → Q σ' H
def tTgs (G : Gx) (l : List Nat) (f : List D → Env → Option Env) : L2.TGs := fun vs σ H Q => ∃ env c ds, Rel G env c σ H ∧ Rps G.K G.fa G.ca (Av G env σ) H vs ds ∧ ∃ e2, f ds env = some e2 ∧ ∀ σ', Rel G e2 c σ' H → Only l σ σ' → (∀ a, Av G e2 σ' a → Av G env σ a) → Q σ' H
theorem pg_imp {X : Cx} {e : Expr} {t t' : TG} (h : PG X e t) (k : ∀ v σ H Q, t' v σ H Q → t v σ H Q) : PG X e t' := ⟨fun pins s σ H v u Q I r q => h.run pins s σ H v u Q I r (k v σ H Q q)⟩
theorem pgs_imp {X : Cx} {e : List Expr} {t t' : L2.TGs} (h : L2.PGs X e t) (k : ∀ v σ H Q, t' v σ H Q → t v σ H Q) : L2.PGs X e t' := ⟨fun pins s σ H v u Q I r q => h.run pins s σ H v u Q I r (k v σ H Q q)⟩
theorem star_asg {e : Expr} {es : List Expr} {env : PySem.Env} (h : isStar e = false) : assignEach (e :: es) env = (false, assign e env) :: assignEach es env := by
  cases e <;> first | (cases h; done) | rfl
theorem star_asg_len {env : PySem.Env} : ∀ {es : List Expr}, es.all (fun e => !isStar e) = true → (assignEach es env).length = es.length
  | [], _ => rfl
  | e :: es, h => by
    rw [List.all_cons, Bool.and_eq_true, Bool.not_eq_true'] at h
    rw [star_asg h.1, List.length_cons, star_asg_len h.2, List.length_cons]
theorem star_asg_none {env : PySem.Env} : ∀ {es : List Expr}, es.all (fun e => !isStar e) = true → (assignEach es env).findIdx? (·.1) = none
  | [], _ => rfl
  | e :: es, h => by
    rw [List.all_cons, Bool.and_eq_true, Bool.not_eq_true'] at h
    rw [star_asg h.1, List.findIdx?_cons]
    simp [star_asg_none h.2]
section
variable {X : Cx} {G : Gx}
theorem sg_n {i : Nat} {x : Str} {pos : Pos} (hN : X.N.Nodup) (hi : X.N[i]? = some x) (hx : Loc X.env.scope x) (hf : X.fn x = true ∨ X.env.scope.names.lookup x = some .local) : PG X (.Name x pos) (tTg G (slots (.n i)) (tgt (.n i))) :=
  pg_imp (L2.pg_name hN hi hx hf) fun v σ H Q ⟨env, c, d, R, r, e2, h, k⟩ => by
    simp only [tgt] at h
    cases h
    refine k _ (R.set r.norm (norm_nown d)) ⟨by simp, fun j hj => ?_⟩ (Av.set fun ds z => norm_nown d ds (Option.some.inj z))
    rw [List.getElem?_set_ne]
    intro z
    exact hj (by simp [slots, z])
theorem sgs_nil : L2.PGs X [] (tTgs G (slotss []) (tgts [])) := pgs_imp L2.pgs_nil fun vs σ H Q ⟨env, c, ds, R, r, e2, h, k⟩ => by
  cases r with
  | nil =>
    simp only [tgts] at h
    cases h
    exact ⟨rfl, k _ R ⟨rfl, fun _ _ => rfl⟩ fun _ q => q⟩
  | cons _ _ => simp [tgts] at h
theorem sgs_cons {e : Expr} {es : List Expr} {t : Tg} {l : List Tg} (h1 : PG X e (tTg G (slots t) (tgt t))) (h2 : L2.PGs X es (tTgs G (slotss l) (tgts l))) (hs : isStar e = false) : L2.PGs X (e :: es) (tTgs G (slotss (t :: l)) (tgts (t :: l))) :=
  pgs_imp (L2.pgs_cons h1 h2 (by rw [star_asg hs]; rfl)) fun vs σ H Q ⟨env, c, ds, R, r, e2, h, k⟩ => by
    cases r with
    | nil => simp [tgts] at h
    | cons r rr =>
      simp only [tgts] at h
      split at h
      · rename_i e1 h1
        refine ⟨_, _, rfl, env, c, _, R, r, e1, h1, fun σ1 R1 o1 a1 => ⟨e1, c, _, R1, rr.anti a1, e2, h, fun σ2 R2 o2 a2 => k σ2 R2 ⟨o2.1.trans o1.1, fun i hi => ?_⟩ fun a q => a1 a (a2 a q)⟩⟩
        simp only [slotss, List.mem_append, not_or] at hi
        rw [o2.2 i hi.2, o1.2 i hi.1]
      · cases h
theorem sg_t {es : List Expr} {l : List Tg} {k : Nat} {pos : Pos} (hc : X.calm = true) (hK : X.K = G.K) (h : L2.PGs X es (tTgs G (slotss l) (tgts l))) (hs : es.all (fun e => !isStar e) = true) (hl : es.length = l.length) : PG X (.Tuple es k pos) (tTg G (slots (.t l)) (tgt (.t l))) :=
  pg_imp (L2.pg_tup (n := es.length) hc h (star_asg_len hs) (star_asg_none hs)) fun v σ H Q ⟨env, c, d, R, r, e2, h, q⟩ => by
    cases d <;> first | (simp [tgt] at h; done) | skip
    simp only [tgt] at h
    cases r with
    | @tup _ _ a vs _ hq rs =>
      have len : ∀ {l : List Tg} {ds : List D} {env e2 : Env}, tgts l ds env = some e2 → ds.length = l.length := by
        intro l
        induction l with
        | nil => intro ds env e2 h; cases ds with
          | nil => rfl
          | cons _ _ => simp [tgts] at h
        | cons t l ih => intro ds env e2 h; cases ds with
          | nil => simp [tgts] at h
          | cons d ds =>
            simp only [tgts] at h
            split at h
            · rw [List.length_cons, List.length_cons, ih h]
            · cases h
      exact ⟨a, vs, rfl, by rw [hK]; exact hq, by rw [rs.length, len h, hl], env, c, _, R, rs, e2, h, fun σ' R' o a' => q σ' R' (by simpa [slots] using o) a'⟩
end
end PX

/-! # PX: what is walked, comprehensions -/
namespace PX
open PySem PySem.Spec PyProof.Rows
open L2 (V HO Hp upd SqT SqL Rd TE TT TA TS TI TG Cx PE PT PA PS PSs PI PG Inv upd_same upd_ne OpR CallR IxR RelV Vals Room Vis Gl Loc)

section
variable {K : PySem.W.Frag} {fa : Nat → Option Addr} {ca : Option Addr} {A A' W : Addr → Prop} {H H' : Hp}
mutual
/-- carried over, seen from another body -/
theorem Rp.move {A A' : Addr → Prop} (s : StpW W H H') (hW : ∀ a, W a → A a ∧ ∃ ys, H a = some (.lst ys)) (hA : ∀ b o, H b = some o → (∀ ps, o ≠ .tbl ps) → ¬ A b → ¬ A' b) : ∀ {v : V} {d : D}, Rp K fa ca A H v d → Rp K fa ca A' H' v d
  | _, _, .non => .non
  | _, _, .bl b => .bl b
  | _, _, .int i => .int i
  | _, _, .str x => .str x
  | _, _, .tup h r => .tup (by
      rcases h with (h | ⟨u, h⟩) | h
      · exact .inl (.inl (s _ _ h tup_nt fun w => by obtain ⟨_, ys, q⟩ := hW _ w; rw [h] at q; cases q))
      · exact .inl (.inr ⟨u, s _ _ h (fun _ q => by cases q) fun w => by obtain ⟨_, ys, q⟩ := hW _ w; rw [h] at q; cases q⟩)
      · exact .inr h) (Rps.move s hW hA r)
  | _, _, .lst h n r => .lst (s _ _ h lst_nt fun w => n (hW _ w).1) (hA _ _ h lst_nt n) (Rps.move s hW hA r)
  | _, _, .own h n r => .own (s _ _ h lst_nt fun w => n (hW _ w).1) (hA _ _ h lst_nt n) (Rps.move s (fun a w => ⟨.inl (hW a w).1, (hW a w).2⟩) (fun b o e t nb z => z.elim (fun z => hA b o e t (fun q => nb (.inl q)) z) fun z => nb (.inr z)) r)
  | _, _, .scr h => .scr (h.imp (fun ⟨h, n⟩ => by
      rcases h with h | ⟨u, h⟩
      · exact ⟨.inl (s _ _ h lst_nt fun w => n (hW _ w).1), hA _ _ h lst_nt n⟩
      · exact ⟨.inr ⟨u, s _ _ h (fun _ q => by cases q) fun w => n (hW _ w).1⟩, hA _ _ h (fun _ q => by cases q) n⟩) id)
  | _, _, .cup h => .cup h
  | _, _, .fn h => .fn h
theorem Rps.move {A A' : Addr → Prop} (s : StpW W H H') (hW : ∀ a, W a → A a ∧ ∃ ys, H a = some (.lst ys)) (hA : ∀ b o, H b = some o → (∀ ps, o ≠ .tbl ps) → ¬ A b → ¬ A' b) : ∀ {vs : List V} {ds : List D}, Rps K fa ca A H vs ds → Rps K fa ca A' H' vs ds
  | _, _, .nil => .nil
  | _, _, .cons r t => .cons (Rp.move s hW hA r) (Rps.move s hW hA t)
end
end
/-- an iterator that walks these items, whatever is done meanwhile to places of W -/
def Wk (G : Gx) (A W : Addr → Prop) (J : L2.It) (Hs : Hp) (xs : List D) : Prop := ∀ (H : Hp) (A' : Addr → Prop), StpW W Hs H → (∀ b o, Hs b = some o → (∀ ps, o ≠ .tbl ps) → ¬ A b → ¬ A' b) → (∀ b, A' b → ∃ ys, H b = some (.lst ys)) → ∀ i : Nat,
  (∀ d, xs[i]? = some d → J.go i H ∧ ∀ x H', J.yld i H x H' → (H' = H ∨ ∃ p o, H p = none ∧ H' = upd H p o) ∧ Rp G.K G.fa G.ca A' H' x d) ∧ (xs.length ≤ i → J.stop i H)
/-- places that may be written while it walks: a borrowed list stands still, but for the shared one -/
def Wm (G : Gx) (env : Env) (σ : Sl) (nb : Bool) : Addr → Prop := fun a => if nb = true then Av G env σ a else G.ca = some a
def PostI (G : Gx) (nb : Bool) (env : Env) (σ : Sl) (H : Hp) (Q : L2.It → Hp → Prop) : R (List D) → Prop
  | .ok xs c => ∀ J H', Rel G env c σ H' → Stp G.ca H H' → Wk G (Av G env σ) (Wm G env σ nb) J H' xs → Q J H'
  | .ex x c => XP G x c
  | .no => False
def tEvi (G : Gx) (nb : Bool) (f : Env → C → R (List D)) : TI := fun σ H Q => ∃ env c, Rel G env c σ H ∧ PostI G nb env σ H Q (f env c)
section
variable {G : Gx} {env : Env} {c : C} {σ : Sl} {H : Hp} {nb : Bool}
theorem Wm.w (R : Rel G env c σ H) : ∀ a, Wm G env σ nb a → Av G env σ a ∧ ∃ ys, H a = some (.lst ys) := fun a h => by
  unfold Wm at h
  split at h
  · exact ⟨h, Av.lst R a h⟩
  · exact R.w a h
theorem sqt_w {K : PySem.W.Frag} {W : Addr → Prop} {Hs H : Hp} {a : Addr} {vs : List V} (s : StpW W Hs H) (hW : ∀ a, W a → ∃ ys, Hs a = some (.lst ys)) (h : SqT K Hs a vs) : SqT K H a vs := by
  rcases h with (h | ⟨u, h⟩) | h
  · exact .inl (.inl (s _ _ h tup_nt fun w => by obtain ⟨ys, q⟩ := hW _ w; rw [h] at q; cases q))
  · exact .inl (.inr ⟨u, s _ _ h (fun _ q => by cases q) fun w => by obtain ⟨ys, q⟩ := hW _ w; rw [h] at q; cases q⟩)
  · exact .inr h
/-- what a list that is not a tuple keeps while it is walked -/
def Lk (K : PySem.W.Frag) (W : Addr → Prop) (Hs : Hp) (a : Addr) (vs : List V) : Prop := ∀ H, StpW W Hs H → SqL K H a vs
theorem lk_of (R : Rel G env c σ H) {d : D} {ds : List D} {v : V} (hb : Rb G.K G.fa G.ca (Av G env σ) H v d) (hn : nb = true → Rp G.K G.fa G.ca (Av G env σ) H v d) (e : items d = some ds) (n : ∀ es, d ≠ .tup es) :
    ∃ a vs, v = .ref a ∧ Rps G.K G.fa G.ca (Av G env σ) H vs ds ∧ Lk G.K (Wm G env σ nb) H a vs := by
  have plain : ∀ {a : Addr} {vs : List V}, H a = some (.lst vs) → (nb = true → ¬ Av G env σ a) → some a ≠ G.ca → Lk G.K (Wm G env σ nb) H a vs := fun {a vs} h h1 h2 H' s => .of (s a _ h lst_nt fun w => by
    unfold Wm at w
    split at w
    · rename_i hb
      exact h1 hb w
    · exact h2 w.symm)
  have nca : ∀ {a : Addr}, ¬ Av G env σ a → some a ≠ G.ca := fun h e => h (R.w _ e.symm).1
  cases d with
  | tup es => exact absurd rfl (n es)
  | lst es =>
    cases e
    cases hb with
    | of q => cases q with
      | lst h nA r => exact ⟨_, _, rfl, r, plain h (fun _ => nA) (nca nA)⟩
    | lst h nc r =>
      refine ⟨_, _, rfl, r, plain h (fun hb => ?_) nc⟩
      cases hn hb with
      | lst h2 nA _ => exact nA
  | own es =>
    cases e
    cases hb with
    | of q => cases q with
      | own h nA r => exact ⟨_, _, rfl, r.anti fun _ z => .inl z, plain h (fun _ => nA) (nca nA)⟩
  | scr l =>
    cases e
    cases hb with
    | of q => cases q with
      | scr h =>
        refine ⟨_, _, rfl, Rps.of_ints l, fun H' s => ?_⟩
        rcases h with ⟨h, nA⟩ | h
        · have nW : ¬ Wm G env σ nb _ := fun w => nA (Wm.w R _ w).1
          rcases h with h | ⟨u, h⟩
          · exact .inl (.inl (s _ _ h lst_nt nW))
          · exact .inl (.inr ⟨u, s _ _ h (fun _ q => by cases q) nW⟩)
        · exact h H'
  | _ => cases e
theorem rps_len_get {K : PySem.W.Frag} {fa ca A H} {vs : List V} {ds : List D} {i : Nat} {d : D} (r : Rps K fa ca A H vs ds) (e : ds[i]? = some d) : ∃ v, vs[i]? = some v ∧ Rp K fa ca A H v d := r.get e
/-- a list -/
theorem wk_list {K' : PySem.W.Frag} (hK : K' = G.K) (R : Rel G env c σ H) {a : Addr} {vs : List V} {ds : List D} (r : Rps G.K G.fa G.ca (Av G env σ) H vs ds) (k : Lk G.K (Wm G env σ nb) H a vs) : Wk G (Av G env σ) (Wm G env σ nb) (L2.Itl K' a) H ds := by
  intro H' A' s hA _ i
  subst hK
  have q := k H' s
  refine ⟨fun d e => ?_, fun hl => ⟨vs, q, by rw [r.length]; exact hl⟩⟩
  obtain ⟨v, e1, r1⟩ := r.get e
  refine ⟨⟨vs, v, q, e1⟩, fun x H2 ⟨e2, e3⟩ => ?_⟩
  have e4 := e3 vs q
  rw [e1] at e4
  cases e4
  exact ⟨.inl e2, by rw [e2]; exact r1.move s (Wm.w R) hA⟩
theorem wk_tup {K' : PySem.W.Frag} (hK : K' = G.K) (R : Rel G env c σ H) {a : Addr} {vs : List V} {ds : List D} (r : Rps G.K G.fa G.ca (Av G env σ) H vs ds) (k : SqT G.K H a vs) : Wk G (Av G env σ) (Wm G env σ nb) (L2.Itt K' a) H ds := by
  intro H' A' s hA _ i
  subst hK
  have q := sqt_w s (fun a w => (Wm.w R a w).2) k
  refine ⟨fun d e => ?_, fun hl => ⟨vs, q, by rw [r.length]; exact hl⟩⟩
  obtain ⟨v, e1, r1⟩ := r.get e
  refine ⟨⟨vs, v, q, e1⟩, fun x H2 ⟨e2, e3⟩ => ?_⟩
  have e4 := e3 vs q
  rw [e1] at e4
  cases e4
  exact ⟨.inl e2, by rw [e2]; exact r1.move s (Wm.w R) hA⟩
theorem rngI_get {lo : Int} {n i : Nat} {d : D} (e : (rngI lo n)[i]? = some d) : i < n ∧ d = .int (lo + (i : Int)) := by
  unfold rngI at e
  rw [List.getElem?_map] at e
  by_cases h : i < n
  · rw [List.getElem?_range h] at e
    exact ⟨h, (Option.some.inj e).symm⟩
  · rw [List.getElem?_eq_none (by simpa using h)] at e
    cases e
theorem rngI_len {lo : Int} {n : Nat} : (rngI lo n).length = n := by simp [rngI]
theorem wk_rng {lo : Int} {n : Nat} : Wk G (Av G env σ) (Wm G env σ nb) (L2.Itr lo n) H (rngI lo n) := by
  intro H' A' s hA _ i
  refine ⟨fun d e => ?_, fun hl => by rw [rngI_len] at hl; exact hl⟩
  obtain ⟨h, rfl⟩ := rngI_get e
  refine ⟨h, fun x H2 ⟨e2, e3⟩ => ⟨.inl e2, ?_⟩⟩
  rw [e3]
  exact .int _
theorem zw_get {α β γ : Type} {f : α → β → γ} {xs : List α} {ys : List β} {i : Nat} {z : γ} (e : (List.zipWith f xs ys)[i]? = some z) : ∃ x y, xs[i]? = some x ∧ ys[i]? = some y ∧ z = f x y := by
  rw [List.getElem?_zipWith] at e
  cases e1 : xs[i]? with
  | none => rw [e1] at e; simp at e
  | some x =>
    cases e2 : ys[i]? with
    | none => rw [e1, e2] at e; simp at e
    | some y =>
      rw [e1, e2] at e
      exact ⟨x, y, rfl, rfl, (Option.some.inj e).symm⟩
theorem new_pair {K : PySem.W.Frag} {fa ca A' H' p v w d e} (hp : H' p = none) (r1 : Rp K fa ca A' H' v d) (r2 : Rp K fa ca A' H' w e) (hA : ∀ b, A' b → ∃ ys, H' b = some (.lst ys)) : Rp K fa ca A' (upd H' p (.tup [v, w])) (.ref p) (.tup [norm d, norm e]) := by
  have s : StpW (fun _ => False) H' (upd H' p (.tup [v, w])) := fun b o h _ _ => by rw [upd_ne (L2.ne_of_none h hp)]; exact h
  exact .tup (.inl (.inl upd_same)) (.cons (r1.keepW s (fun _ z => z.elim)).norm (.cons (r2.keepW s (fun _ z => z.elim)).norm .nil))
theorem wk_zip {K' : PySem.W.Frag} (hK : K' = G.K) (R : Rel G env c σ H) {a b : Addr} {vs ws : List V} {ds es : List D} (r : Rps G.K G.fa G.ca (Av G env σ) H vs ds) (k : Lk G.K (Wm G env σ nb) H a vs) (r2 : Rps G.K G.fa G.ca (Av G env σ) H ws es) (k2 : Lk G.K (Wm G env σ nb) H b ws) :
    Wk G (Av G env σ) (Wm G env σ nb) (L2.Itz K' a b) H (List.zipWith (fun p q => D.tup [norm p, norm q]) ds es) := by
  intro H' A' s hA hl i
  subst hK
  have q := k H' s
  have q2 := k2 H' s
  refine ⟨fun d e => ?_, fun hz => ⟨vs, ws, q, q2, by rw [List.length_zipWith] at hz; rw [r.length, r2.length]; omega⟩⟩
  obtain ⟨x, y, e1, e2, rfl⟩ := zw_get e
  obtain ⟨v, e3, r3⟩ := r.get e1
  obtain ⟨w, e4, r4⟩ := r2.get e2
  refine ⟨⟨vs, ws, v, w, q, q2, e3, e4⟩, fun z H2 ⟨T, v', w', ez, hT, e5, e6, e7⟩ => ?_⟩
  have e8 := e6 vs q
  rw [e3] at e8
  cases e8
  have e9 := e7 ws q2
  rw [e4] at e9
  cases e9
  refine ⟨.inr ⟨T, _, hT, e5⟩, ?_⟩
  rw [ez, e5]
  exact new_pair hT (r3.move s (Wm.w R) hA) (r4.move s (Wm.w R) hA) hl
theorem wk_zipT {K' : PySem.W.Frag} (hK : K' = G.K) (R : Rel G env c σ H) {a b : Addr} {vs ws : List V} {ds es : List D} (r : Rps G.K G.fa G.ca (Av G env σ) H vs ds) (k : SqT G.K H a vs) (r2 : Rps G.K G.fa G.ca (Av G env σ) H ws es) (k2 : SqT G.K H b ws) :
    Wk G (Av G env σ) (Wm G env σ nb) (RZ.ItzT K' a b) H (List.zipWith (fun p q => D.tup [norm p, norm q]) ds es) := by
  intro H' A' s hA hl i
  subst hK
  have q := sqt_w s (fun a w => (Wm.w R a w).2) k
  have q2 := sqt_w s (fun a w => (Wm.w R a w).2) k2
  refine ⟨fun d e => ?_, fun hz => ⟨vs, ws, q, q2, by rw [List.length_zipWith] at hz; rw [r.length, r2.length]; omega⟩⟩
  obtain ⟨x, y, e1, e2, rfl⟩ := zw_get e
  obtain ⟨v, e3, r3⟩ := r.get e1
  obtain ⟨w, e4, r4⟩ := r2.get e2
  refine ⟨⟨vs, ws, v, w, q, q2, e3, e4⟩, fun z H2 ⟨T, v', w', ez, hT, e5, e6, e7⟩ => ?_⟩
  have e8 := e6 vs q
  rw [e3] at e8
  cases e8
  have e9 := e7 ws q2
  rw [e4] at e9
  cases e9
  refine ⟨.inr ⟨T, _, hT, e5⟩, ?_⟩
  rw [ez, e5]
  exact new_pair hT (r3.move s (Wm.w R) hA) (r4.move s (Wm.w R) hA) hl
theorem wk_enum {K' : PySem.W.Frag} (hK : K' = G.K) (R : Rel G env c σ H) {a : Addr} {vs : List V} {ds : List D} (r : Rps G.K G.fa G.ca (Av G env σ) H vs ds) (k : Lk G.K (Wm G env σ nb) H a vs) :
    Wk G (Av G env σ) (Wm G env σ nb) (L2.Ite K' a) H (List.zipWith (fun p q => D.tup [p, norm q]) (rngI 0 ds.length) ds) := by
  intro H' A' s hA hl i
  subst hK
  have q := k H' s
  refine ⟨fun d e => ?_, fun hz => ⟨vs, q, by rw [List.length_zipWith, rngI_len] at hz; rw [r.length]; omega⟩⟩
  obtain ⟨x, y, e1, e2, rfl⟩ := zw_get e
  obtain ⟨h, rfl⟩ := rngI_get e1
  obtain ⟨v, e3, r3⟩ := r.get e2
  refine ⟨⟨vs, v, q, e3⟩, fun z H2 ⟨T, v', ez, hT, e5, e6⟩ => ?_⟩
  have e8 := e6 vs q
  rw [e3] at e8
  cases e8
  refine ⟨.inr ⟨T, _, hT, e5⟩, ?_⟩
  rw [ez, e5]
  have := new_pair (d := .int (0 + (i : Int))) hT (by rw [Int.zero_add]; exact .int _) (r3.move s (Wm.w R) hA) hl
  exact this
end
theorem pi_imp {X : Cx} {tg e : Expr} {t t' : TI} (h : PI X tg e t) (k : ∀ σ H Q, t' σ H Q → t σ H Q) : PI X tg e t' := ⟨fun pins s σ H R I q => h.run pins s σ H R I (k σ H R q)⟩
section
variable {X : Cx} {G : Gx} {T : Tab} {cl : Cl}
theorem si_itr {tg e : Expr} {a : E} {nb : Bool} (hK : X.K = G.K) (he : PE X e (tEv G nb (ev T cl a))) : PI X tg e (tEvi G nb (evi T cl (.itr a))) := by
  refine ⟨fun pins s σ H Q I ⟨env, c, R, h⟩ => ?_⟩
  simp only [evi] at h
  cases e1 : ev T cl a env c with
  | no => rw [e1] at h; exact h.elim
  | ex x c1 => rw [e1] at h; exact (L2.pi_list he).run pins s σ H Q I ⟨env, c, R, by rw [e1]; exact h⟩
  | ok d c1 =>
    rw [e1] at h
    have h : PostI G nb env σ H Q (lift ((items d).map fun l => l.map norm) c1) := h
    cases e2 : items d with
    | none => rw [e2] at h; exact h.elim
    | some ds =>
      rw [e2] at h
      by_cases ht : ∃ es, d = .tup es
      · obtain ⟨es, rfl⟩ := ht
        cases e2
        refine (L2.pi_tup he).run pins s σ H Q I ⟨env, c, R, ?_⟩
        rw [e1]
        intro v H1 R1 s1 rb1 _ _
        obtain ⟨p, vs, rfl, hq, r⟩ := rb_tup rb1
        exact ⟨p, rfl, ⟨vs, by rw [hK]; exact hq⟩, h _ _ R1 s1 (wk_tup hK R1 r.norm hq)⟩
      · have hn : ∀ es, d ≠ .tup es := fun es z => ht ⟨es, z⟩
        refine (L2.pi_list he).run pins s σ H Q I ⟨env, c, R, ?_⟩
        rw [e1]
        intro v H1 R1 s1 rb1 rp1 _
        obtain ⟨p, vs, rfl, r, k⟩ := lk_of (nb := nb) R1 rb1 rp1 e2 hn
        exact ⟨p, rfl, ⟨vs, by rw [hK]; exact k H1 fun _ _ q _ _ => q⟩, h _ _ R1 s1 (wk_list hK R1 r.norm k)⟩
theorem rb_posti {nb nb' : Bool} {env : Env} {σ : Sl} {H : Hp} {Q : L2.It → Hp → Prop} {Q' : V → Hp → Prop} {r : R D} {g : D → C → R (List D)} (h : PostI G nb env σ H Q (r.bind g))
    (k : ∀ d c v H', Rel G env c σ H' → Stp G.ca H H' → Rb G.K G.fa G.ca (Av G env σ) H' v d → (nb' = true → Rp G.K G.fa G.ca (Av G env σ) H' v d) → PostI G nb env σ H Q (g d c) → Q' v H') : Post G nb' env σ H Q' r := by
  cases r with
  | ok d c => exact fun v H' R s rb rp _ => k d c v H' R s rb rp h
  | ex x c => exact h
  | no => exact h
theorem si_rng1 {tg e : Expr} {a : E} {na nb : Bool} {p pos : Pos} (hg : Gl X "range") (hm : X.mg "range" = none) (he : PE X e (tEv G na (ev T cl a))) (hs : isStar e = false) : PI X tg (.Call (.Name "range" p) [e] [] pos) (tEvi G nb (evi T cl (.rng1 a))) :=
  pi_imp (L2.pi_range1 hg hm (L2.pa_cons he L2.pa_nil (star_cons hs)) (star_cons hs)) fun σ H Q ⟨env, c, R, h⟩ => by
    simp only [evi] at h
    refine ⟨env, c, R, rb_posti h fun d c1 v H1 R1 s1 rb1 _ h1 => ?_⟩
    obtain ⟨xs, e1, h2⟩ := lift_some h1 fun z => z
    cases d <;> first | (cases e1; done) | skip
    obtain ⟨hn, rfl⟩ := ite_some e1
    exact ⟨_, by rw [rb_int rb1], hn.1, hn.2, h2 _ _ R1 s1 wk_rng⟩
theorem si_rng2 {tg e e2 : Expr} {a b : E} {na nb n : Bool} {p pos : Pos} (hg : Gl X "range") (hm : X.mg "range" = none) (he : PE X e (tEv G na (ev T cl a))) (he2 : PE X e2 (tEv G nb (ev T cl b))) (hs : isStar e = false) (hs2 : isStar e2 = false) : PI X tg (.Call (.Name "range" p) [e, e2] [] pos) (tEvi G n (evi T cl (.rng2 a b))) :=
  pi_imp (L2.pi_range2 hg hm (L2.pa_cons he (L2.pa_cons he2 L2.pa_nil (star_cons hs2)) (star_cons hs)) (by rw [star_cons hs, star_cons hs2]; rfl) (star_cons hs2)) fun σ H Q ⟨env, c, R, h⟩ => by
    simp only [evi] at h
    refine ⟨env, c, R, rb_posti h fun d c1 v H1 R1 s1 rb1 _ h1 => ⟨env, c1, R1, ?_⟩⟩
    generalize ev T cl b env c1 = r at h1 ⊢
    cases r with
    | no => exact h1
    | ex x c1 => exact h1
    | ok d2 c2 =>
      intro v2 H2 R2 s2 rb2 _ _
      obtain ⟨xs, e1, h2⟩ := lift_some (P := PostI G n env σ H Q) h1 fun z => z
      cases d <;> first | (cases e1; done) | skip
      cases d2 <;> first | (cases e1; done) | skip
      obtain ⟨hn, rfl⟩ := ite_some e1
      exact ⟨_, _, by rw [rb_int rb1, rb_int rb2], hn, h2 _ _ R2 (s1.trans s2) wk_rng⟩
theorem isTup_items {d : D} {ds : List D} (e : items d = some ds) (h : isTup d = true) : d = .tup ds := by
  cases d <;> first | (cases h; done) | (cases e; rfl)
theorem isTup_no {d : D} (h : isTup d = false) : ∀ es, d ≠ .tup es := fun es z => by subst z; cases h
theorem si_zip2 {elts : List Expr} {kk : Nat} {tpos : Pos} {e e2 : Expr} {a b : E} {nb : Bool} {p pos : Pos} (hK : X.K = G.K) (hg : Gl X "zip") (hm : X.mg "zip" = none) (he : PE X e (tEv G nb (ev T cl a))) (he2 : PE X e2 (tEv G nb (ev T cl b))) (hs : isStar e = false) (hs2 : isStar e2 = false) : PI X (.Tuple elts kk tpos) (.Call (.Name "zip" p) [e, e2] [] pos) (tEvi G nb (evi T cl (.zip2 a b))) :=
  pi_imp (RZ.pi_zipA hg hm (L2.pa_cons he (L2.pa_cons he2 L2.pa_nil (star_cons hs2)) (star_cons hs)) (star_cons hs) (star_back (by simp [hs2]))) fun σ H Q ⟨env, c, R, h⟩ => by
    simp only [evi] at h
    refine ⟨env, c, R, rb_posti (nb' := nb) h fun d c1 v H1 R1 s1 rb1 rp1 h1 => ⟨env, c1, R1, ?_⟩⟩
    generalize ev T cl b env c1 = r at h1 ⊢
    cases r with
    | no => exact h1
    | ex x c1 => exact h1
    | ok d2 c2 =>
      intro v2 H2 R2 s2 rb2 rp2 _
      obtain ⟨zs, e1, h2⟩ := lift_some (P := PostI G nb env σ H Q) h1 fun z => z
      unfold zipv at e1
      split at e1
      · rename_i xs e3
        split at e1
        · rename_i ys e4
          obtain ⟨ht, rfl⟩ := ite_some e1
          have ht : isTup d = isTup d2 := by simpa using ht
          have rb1' := rb1.keep s2 R1.w
          cases e5 : isTup d with
          | true =>
            have f1 := isTup_items e3 e5
            have f2 := isTup_items e4 (ht ▸ e5)
            subst f1
            subst f2
            obtain ⟨p1, vs, rfl, q1, r1⟩ := rb_tup rb1'
            obtain ⟨p2, ws, rfl, q2, r2⟩ := rb_tup rb2
            exact ⟨p1, p2, vs, ws, rfl, .inr ⟨by rw [hK]; exact q1, by rw [hK]; exact q2, h2 _ _ R2 (s1.trans s2) (wk_zipT hK R2 r1 q1 r2 q2)⟩⟩
          | false =>
            have f1 := isTup_no e5
            have f2 := isTup_no (ht ▸ e5)
            obtain ⟨p1, vs, rfl, r1, k1⟩ := lk_of (nb := nb) R2 rb1' (fun z => (rp1 z).keep s2 R1.w) e3 f1
            obtain ⟨p2, ws, rfl, r2, k2⟩ := lk_of (nb := nb) R2 rb2 rp2 e4 f2
            exact ⟨p1, p2, vs, ws, rfl, .inl ⟨by rw [hK]; exact k1 H2 fun _ _ q _ _ => q, by rw [hK]; exact k2 H2 fun _ _ q _ _ => q, h2 _ _ R2 (s1.trans s2) (wk_zip hK R2 r1 k1 r2 k2)⟩⟩
        · cases e1
      · cases e1
theorem si_enum {elts : List Expr} {kk : Nat} {tpos : Pos} {e : Expr} {a : E} {nb : Bool} {p pos : Pos} (hK : X.K = G.K) (hg : Gl X "enumerate") (hm : X.mg "enumerate" = none) (he : PE X e (tEv G nb (ev T cl a))) (hs : isStar e = false) : PI X (.Tuple elts kk tpos) (.Call (.Name "enumerate" p) [e] [] pos) (tEvi G nb (evi T cl (.enum a))) :=
  pi_imp (L2.pi_enum hg hm (L2.pa_cons he L2.pa_nil (star_cons hs)) (star_cons hs)) fun σ H Q ⟨env, c, R, h⟩ => by
    simp only [evi] at h
    refine ⟨env, c, R, rb_posti (nb' := nb) h fun d c1 v H1 R1 s1 rb1 rp1 h1 => ?_⟩
    obtain ⟨zs, e1, h2⟩ := lift_some h1 fun z => z
    unfold enumv at e1
    split at e1
    · rename_i xs e3
      split at e1
      · cases e1
      · rename_i ht
        cases e1
        obtain ⟨p1, vs, rfl, r1, k1⟩ := lk_of (nb := nb) R1 rb1 rp1 e3 (isTup_no (by simpa using ht))
        exact ⟨p1, vs, rfl, by rw [hK]; exact k1 H1 fun _ _ q _ _ => q, h2 _ _ R1 s1 (wk_enum hK R1 r1 k1)⟩
    · cases e1
end
end PX

/-! # PX: comprehensions -/
namespace PX
open PySem PySem.Spec PyProof.Rows
open L2 (V HO Hp upd SqT SqL Rd TE TT TA TS TI TG Cx PE PT PA PS PSs PI PG Inv upd_same upd_ne OpR CallR IxR RelV Vals Room Vis Gl Loc)

/-- within a comprehension: nothing is raised, O tells the places of others -/
def Gx.blk (G : Gx) (O : Addr → Prop) : Gx := { G with O := O, E := fun _ _ _ => False }
section
variable {G : Gx} {env : Env} {c ci : C} {σ : Sl} {H H1 H2 : Hp}
theorem tab_write {T : List (Addr × Str)} {d : Addr} {xs : List V} {o : HO} (h : LamX.Tabs T H) (e : H d = some (.lst xs)) : LamX.Tabs T (upd H d o) := fun p hp => by
  obtain ⟨ps, h1, h2, h3⟩ := h p hp
  refine ⟨ps, ?_, h2, fun pos cv hc => ?_⟩
  · rw [upd_ne fun z => by rw [z, e] at h1; cases h1]
    exact h1
  · obtain ⟨q, e1, e2⟩ := h3 pos cv hc
    refine ⟨q, e1, ?_⟩
    rw [upd_ne fun z => by rw [z, e] at e2; cases e2]
    exact e2
/-- seen from within a comprehension whose list stands at d -/
theorem Rel.block (R : Rel G env c σ H1) {d : Addr} {acc : List V} (hd : H1 d = none) (s : Stp G.ca H1 H2) (I : Inh G ci H2) (hD : H2 d = some (.lst acc)) : Rel (G.blk fun b => G.O b ∨ b = d) env ci σ H2 := by
  have hn := Nw.of hd
  have keep : ∀ {v d'}, Rp G.K G.fa G.ca (Av G env σ) H1 v d' → Rp G.K G.fa G.ca (Av (G.blk fun b => G.O b ∨ b = d) env σ) H2 v d' := fun r =>
    ((r.grow hn).keep s fun a e => ⟨.inl (R.w a e).1, (R.w a e).2⟩).anti fun a h => by
      rcases h with (h | h) | h
      · exact .inl (.inl h)
      · exact .inr h
      · exact .inl (.inr h)
  have keeps : ∀ {v d'}, Rps G.K G.fa G.ca (Av G env σ) H1 v d' → Rps G.K G.fa G.ca (Av (G.blk fun b => G.O b ∨ b = d) env σ) H2 v d' := fun r =>
    ((r.grow hn).keep s fun a e => ⟨.inl (R.w a e).1, (R.w a e).2⟩).anti fun a h => by
      rcases h with (h | h) | h
      · exact .inl (.inl h)
      · exact .inr h
      · exact .inl (.inr h)
  refine ⟨⟨I.cup, I.tab, I.stp, fun a e => .inl (I.oc a e), fun a h => ?_⟩, R.len, fun i d' e n => ?_, fun i ds e => ?_, R.inj⟩
  · rcases h with h | h
    · exact I.ol a h
    · rw [h]; exact ⟨_, hD⟩
  · obtain ⟨v, h1, h2⟩ := R.val i d' e n
    exact ⟨v, h1, keep h2⟩
  · obtain ⟨a, vs, h1, h2, h3, h4, h5⟩ := R.own i ds e
    refine ⟨a, vs, h1, s _ _ h2 lst_nt (R.nca h3), fun z => ?_, h4, keeps h5⟩
    rcases z with z | z
    · exact h3 z
    · exact hn.ne h2 lst_nt z
end
def tLcG (G : Gx) (l : List Nat) (f : D → Env → Option Env) : TG := fun v σ H Q => ∃ O, tTg (G.blk O) l f v σ H Q
def tLcT (G : Gx) (f : Env → C → R Bool) : TT := fun σ H Q => ∃ O, tEvT (G.blk O) f σ H Q
def tLcE (G : Gx) (f : Env → C → R D) : TE := fun σ H Q => ∃ O, tEv (G.blk O) true f σ H Q
section
variable {G : Gx} {T : Tab} {cl : Cl}
theorem wipes_out {own : List Nat} {env : Env} {j : Nat} (h : j ∉ own) : (wipes env own)[j]? = env[j]? := by
  induction own with
  | nil => rfl
  | cons v vs ih =>
    simp only [List.mem_cons, not_or] at h
    show ((wipes env vs).set v none)[j]? = _
    rw [List.getElem?_set_ne (Ne.symm h.1), ih h.2]
mutual
theorem tgt_out : ∀ {t : Tg} {d : D} {env e2 : Env}, tgt t d env = some e2 → ∀ j, j ∉ slots t → e2[j]? = env[j]?
  | .n i, d, env, e2, h, j, hj => by
    simp only [tgt] at h
    cases h
    rw [List.getElem?_set_ne]
    intro z
    exact hj (by simp [slots, z])
  | .t l, d, env, e2, h, j, hj => by
    cases d <;> first | (simp [tgt] at h; done) | skip
    simp only [tgt] at h
    exact tgts_out h j (by simpa [slots] using hj)
theorem tgts_out : ∀ {l : List Tg} {ds : List D} {env e2 : Env}, tgts l ds env = some e2 → ∀ j, j ∉ slotss l → e2[j]? = env[j]?
  | [], [], env, e2, h, j, hj => by simp only [tgts] at h; cases h; rfl
  | [], _ :: _, env, e2, h, j, hj => by simp [tgts] at h
  | _ :: _, [], env, e2, h, j, hj => by simp [tgts] at h
  | t :: l, d :: ds, env, e2, h, j, hj => by
    simp only [tgts] at h
    simp only [slotss, List.mem_append, not_or] at hj
    split at h
    · rename_i e1 h1
      rw [tgts_out h j hj.2, tgt_out h1 j hj.1]
    · cases h
end
theorem own_not {env : Env} {own : List Nat} (h : own.all (noOwn env) = true) {i : Nat} {ds : List D} (e : env[i]? = some (some (.own ds))) : i ∉ own := fun hm => by
  have := List.all_eq_true.mp h i hm
  unfold noOwn at this
  rw [e] at this
  cases this
theorem CupOk.write {ca : Option Addr} {c : C} {H : Hp} {d : Addr} {o : HO} (h : CupOk ca c H) (n : some d ≠ ca) : CupOk ca c (upd H d o) := by
  cases ca with
  | none => cases c with
    | none => trivial
    | some x => exact h
  | some a => cases c with
    | none => exact h
    | some x =>
      have h : H a = some (.lst [.int x.1, .int x.2]) := h
      show upd H d o a = _
      rw [upd_ne fun z => n (by rw [z])]
      exact h
def lcF (T : Tab) (cl : Cl) (elt : E) (tg : Tg) (cond : List E) (own : List Nat) (env : Env) : D → C → PX.R (Option D) := fun x c => match tgt tg x (wipes env own) with
  | some e2 => (evc T cl cond e2 c).bind fun b c => if b then (ev T cl elt e2 c).bind fun y c => .ok (some y) c else .ok none c
  | none => .no
theorem ev_lc {elt : E} {tg : Tg} {it : E} {cond : List E} {own : List Nat} {env : Env} {c : C} : ev T cl (.lc elt tg it cond own) env c = (evi T cl it env c).bind fun xs c => if own.all (noOwn env) then lcGo (lcF T cl elt tg cond own env) xs [] c else .no := by
  simp only [ev] <;> rfl
theorem lc_read {elt : E} {tg : Tg} {it : E} {cond : List E} {own : List Nat} {nb nbi : Bool} (hsub : ∀ i ∈ slots tg, i ∈ own) {σ : Sl} {H : Hp} {Q : V → Hp → Prop} (h : tEv G nb (ev T cl (.lc elt tg it cond own)) σ H Q) :
    L2.tLc (tEvi G nbi (evi T cl it)) (tLcG G (slots tg) (tgt tg)) (tLcT G (evc T cl cond)) (tLcE G (ev T cl elt)) own σ H Q := by
  obtain ⟨env, c, R, h⟩ := h
  rw [ev_lc] at h
  refine ⟨env, c, R, ?_⟩
  generalize evi T cl it env c = r at h ⊢
  cases r with
  | no => exact h
  | ex x c1 => exact h
  | ok xs c1 =>
    intro J H1 R1 s1 wk d hd
    have h : Post G nb env σ H Q (if own.all (noOwn env) then lcGo (lcF T cl elt tg cond own env) xs [] c1 else .no) := h
    split at h
    case isFalse => exact h.elim
    rename_i hown
    generalize hf : lcF T cl elt tg cond own env = f at h
    have nca : some d ≠ G.ca := R1.inh.nca hd
    refine ⟨fun i m H2 => m = xs.length - i ∧ i ≤ xs.length ∧ ∃ ci acc dacc, Inh G ci H2 ∧ Stp G.ca H1 H2 ∧ H2 d = some (.lst acc) ∧ Rps G.K G.fa G.ca (fun b => Av G env σ b ∨ b = d) H2 acc dacc ∧ Post G nb env σ H Q (lcGo f (xs.drop i) dacc ci),
      ⟨xs.length, rfl, Nat.zero_le _, c1, [], [], R1.inh.new hd, Stp.new hd, upd_same, .nil, h⟩, ?_⟩
    rintro i m H2 ⟨rfl, hi, ci, acc, dacc, I2, s2, hDa, ra, hp⟩
    have R2 : Rel G env ci σ H2 := R1.stp s2 I2
    have RB := Rel.block R1 hd s2 I2 hDa
    have hA : ∀ b o, H1 b = some o → (∀ ps, o ≠ .tbl ps) → ¬ Av G env σ b → ¬ Av (G.blk fun b => G.O b ∨ b = d) (wipes env own) (L2.wipe σ own) b := fun b o e t n z => by
      rcases Av.wipe own b z with (z | z) | z
      · exact n (.inl z)
      · rw [z, hd] at e; cases e
      · exact n (.inr z)
    have w := wk H2 (Av (G.blk fun b => G.O b ∨ b = d) (wipes env own) (L2.wipe σ own)) (fun b o e t n => s2 b o e t fun z => n (by
      unfold Wm
      split
      · exact .inl (R1.inh.oc b z.symm)
      · exact z.symm)) hA (fun b z => Av.lst (RB.wipe own) b z) i
    by_cases hlt : i < xs.length
    · have ex : xs[i]? = some xs[i] := List.getElem?_eq_getElem hlt
      generalize xs[i] = x at ex
      have e0 : xs.drop i = x :: xs.drop (i + 1) := by
        rw [List.drop_eq_getElem_cons hlt]
        congr 1
        rw [List.getElem?_eq_getElem hlt] at ex
        exact Option.some.inj ex
      obtain ⟨go, yl⟩ := w.1 x ex
      refine .inr ⟨go, fun H' => i + 1 ≤ xs.length ∧ ∃ ci acc dacc, Inh G ci H' ∧ Stp G.ca H1 H' ∧ H' d = some (.lst acc) ∧ Rps G.K G.fa G.ca (fun b => Av G env σ b ∨ b = d) H' acc dacc ∧ Post G nb env σ H Q (lcGo f (xs.drop (i + 1)) dacc ci),
        fun H' hx => ⟨xs.length - (i + 1), by omega, rfl, hx⟩, fun xv H3 hy => ?_⟩
      obtain ⟨hn, rx⟩ := yl xv H3 hy
      have s3 : Stp G.ca H2 H3 := by
        rcases hn with e | ⟨p, o, hp', e⟩
        · rw [e]; exact Stp.refl _ _
        · rw [e]; exact Stp.new hp'
      have I3 : Inh G ci H3 := by
        rcases hn with e | ⟨p, o, hp', e⟩
        · rw [e]; exact I2
        · rw [e]; exact I2.new hp'
      have hD3 : H3 d = some (.lst acc) := s3 _ _ hDa lst_nt nca
      have RB3 := (Rel.block R1 hd (s2.trans s3) I3 hD3).wipe own
      have ra3 := ra.keep s3 fun a e => ⟨.inl (R2.w a e).1, (R2.w a e).2⟩
      rw [e0, lcGo] at hp
      rw [← hf, lcF] at hp
      cases ht : tgt tg x (wipes env own) with
      | none => rw [ht] at hp; exact hp.elim
      | some e2 =>
        rw [ht] at hp
        refine ⟨_, wipes env own, ci, x, RB3, rx, e2, ht, fun σ3 R4 o4 a4 => ⟨wipe_eq own (o4.1.trans (L2.wipe_length _ _)) (fun j hj => ?_), ?_⟩⟩
        · rw [o4.2 j fun z => hj (hsub j z), L2.wipe_out hj]
        · refine ⟨_, e2, ci, R4, ?_⟩
          have hp : Post G nb env σ H Q (match (evc T cl cond e2 ci).bind fun b c => if b then (ev T cl elt e2 c).bind fun y c => .ok (some y) c else .ok none c with
            | .ok (some y) c2 => if dacc.length < szl then lcGo f (xs.drop (i + 1)) (dacc ++ [norm y]) c2 else .no
            | .ok none c2 => lcGo f (xs.drop (i + 1)) dacc c2
            | _ => .no) := by rw [← hf]; exact hp
          generalize evc T cl cond e2 ci = r at hp ⊢
          cases r with
          | no => exact hp.elim
          | ex _ _ => exact hp.elim
          | ok b c2 =>
            intro H4 R5 s5
            have s25 : Stp G.ca H2 H4 := s3.trans s5
            have hD4 : H4 d = some (.lst acc) := s25 _ _ hDa lst_nt nca
            have ra4 := ra.keep s25 fun a e => ⟨.inl (R2.w a e).1, (R2.w a e).2⟩
            have inh : ∀ {e c H}, Rel (G.blk fun b => G.O b ∨ b = d) e c σ3 H → Inh G c H := fun q => ⟨q.inh.cup, q.inh.tab, q.inh.stp, R.inh.oc, fun a z => q.inh.ol a (.inl z)⟩
            cases b with
            | false =>
              rw [if_neg Bool.false_ne_true]
              exact ⟨hlt, c2, acc, dacc, inh R5, s2.trans s25, hD4, ra4, hp⟩
            | true =>
              rw [if_pos rfl]
              refine ⟨_, e2, c2, R5, ?_⟩
              have hp : Post G nb env σ H Q (match (ev T cl elt e2 c2).bind fun y c => .ok (some y) c with
                | .ok (some y) c2 => if dacc.length < szl then lcGo f (xs.drop (i + 1)) (dacc ++ [norm y]) c2 else .no
                | .ok none c2 => lcGo f (xs.drop (i + 1)) dacc c2
                | _ => .no) := hp
              generalize ev T cl elt e2 c2 = r at hp ⊢
              cases r with
              | no => exact hp.elim
              | ex _ _ => exact hp.elim
              | ok y c3 =>
                intro yv H5 R6 s6 _ rp6 _
                have hp : Post G nb env σ H Q (if dacc.length < szl then lcGo f (xs.drop (i + 1)) (dacc ++ [norm y]) c3 else .no) := hp
                split at hp
                · rename_i hz
                  have s26 : Stp G.ca H2 H5 := s25.trans s6
                  have hD5 : H5 d = some (.lst acc) := s26 _ _ hDa lst_nt nca
                  have ra5 := ra.keep s26 fun a e => ⟨.inl (R2.w a e).1, (R2.w a e).2⟩
                  have ry : Rp G.K G.fa G.ca (fun b => Av G env σ b ∨ b = d) H5 yv (norm y) := by
                    refine ((rp6 rfl).norm).anti fun b z => ?_
                    rcases z with (z | ⟨j, es, q1, q2⟩) | z
                    · exact .inl (.inl z)
                    · have hj := own_not hown q1
                      have hj2 : j ∉ slots tg := fun z => hj (hsub j z)
                      exact .inr ⟨j, es, by rw [tgt_out ht j hj2, wipes_out hj]; exact q1, by rw [o4.2 j hj2, L2.wipe_out hj]; exact q2⟩
                    · exact .inl (.inr z)
                  have sW : StpW (fun b => b = d) H5 (upd H5 d (.lst (acc ++ [yv]))) := fun b o h _ n => by rw [upd_ne n]; exact h
                  have hW : ∀ a, a = d → (Av G env σ a ∨ a = d) ∧ ∃ ys, H5 a = some (.lst ys) := fun a e => ⟨.inr e, by rw [e]; exact ⟨_, hD5⟩⟩
                  have I5 := inh R6
                  refine ⟨acc, hD5, by rw [ra5.length, ← szl_eq]; exact hz, hlt, c3, acc ++ [yv], dacc ++ [norm y], ⟨?_, tab_write I5.tab hD5, ?_, I5.oc, fun a z => ?_⟩, ?_, upd_same, (ra5.keepW sW hW).app (.cons (ry.keepW sW hW) .nil), hp⟩
                  · exact I5.cup.write nca
                  · intro b o q t n
                    rw [upd_ne fun z => by have := R1.inh.stp b o q t n; rw [z, hd] at this; cases this]
                    exact I5.stp b o q t n
                  · by_cases e : a = d
                    · rw [e]; exact ⟨_, upd_same⟩
                    · rw [upd_ne e]; exact I5.ol a z
                  · intro b o q t n
                    rw [upd_ne (L2.ne_of_none q hd)]
                    exact (s2.trans s26) b o q t n
                · exact hp.elim
    · refine .inl ⟨w.2 (by omega), ?_⟩
      rw [List.drop_of_length_le (by omega)] at hp
      have hp : Post G nb env σ H Q (.ok (.own dacc) ci) := hp
      have rr : Rp G.K G.fa G.ca (Av G env σ) H2 (.ref d) (.own dacc) := .own hDa (R1.fresh (Nw.of hd)) ra
      exact hp _ _ R2 (s1.trans s2) (.of rr) (fun _ => rr) fun _ a _ e => by
        cases e
        exact (Nw.of hd).back s1 nca
end
end PX

/-! # PX: does the text say what my tree says? expressions -/
namespace PX
open PySem PySem.Spec PyProof.Rows
open L2 (V HO Hp upd SqT SqL Rd TE TT TA TS TI TG Cx PE PT PA PS PSs PI PG Inv upd_same upd_ne OpR CallR IxR RelV Vals Room Vis Gl Loc)

/-- the names: of a body's slots; of the program's defs, constants, trying defs, classes of exceptions -/
structure Ck where
  N : List Str
  fn : List Str
  cn : List Str
  fl : List Str
  en : List Str
  flq : Nat → E → Scope → Expr → Bool
def visB (sc : Scope) (x : Str) : Bool := match sc.names.lookup x with
  | some .local => true
  | some .cell => true
  | some .free => true
  | _ => false
def glB (sc : Scope) (x : Str) : Bool := decide (sc.names.lookup x = some .globalImplicit)
def okN (x : Str) : Bool := !(x == ("__debug__" : Str)) && !(x == ("__classdict__" : Str))
/-- which cells are the block's own -/
def fnB : Option Scope → Str → Bool
  | none, _ => true
  | some s, x => s.names.lookup x == some .cell
def locB (sc : Scope) (fs : Option Scope) (x : Str) : Bool := match sc.names.lookup x with
  | some .local => true
  | some .cell => fnB fs x
  | _ => false
def slotB (k : Ck) (i : Nat) (x : Str) : Bool := decide (k.N[i]? = some x)
mutual
def nbE : E → Bool
  | .vb _ => false
  | .and es => nbL es
  | .or es => nbL es
  | .ife _ a b => nbE a && nbE b
  | _ => true
def nbL : List E → Bool
  | [] => true
  | e :: r => match r with
    | [] => nbE e
    | _ => nbL r
end
def nbI : E → Bool
  | .itr a => nbE a
  | .zip2 a b => nbE a && nbE b
  | .enum a => nbE a
  | _ => true
mutual
def okTg (k : Ck) (sc : Scope) (fs : Option Scope) : Tg → Expr → Bool
  | .n i, p => match p with
    | .Name x _ => slotB k i x && locB sc fs x
    | _ => false
  | .t l, p => match p with
    | .Tuple ps _ _ => okTgs k sc fs l ps
    | _ => false
def okTgs (k : Ck) (sc : Scope) (fs : Option Scope) : List Tg → List Expr → Bool
  | [], ps => ps.isEmpty
  | t :: l, ps => match ps with
    | p :: ps => okTg k sc fs t p && okTgs k sc fs l ps
    | [] => false
end
def ownP (k : Ck) (own : List Nat) : List (Str × Nat) := own.map fun i => ((k.N[i]?).getD default, i)
section
variable (k : Ck)
mutual
def okE : E → Scope → Option Scope → Expr → Bool
  | .v i, sc, _, p => match p with
    | .Name x _ => slotB k i x && visB sc x && okN x
    | _ => false
  | .vb i, sc, _, p => match p with
    | .Name x _ => slotB k i x && visB sc x && okN x
    | _ => false
  | .int n, _, _, p => match p with
    | .Constant (.int m) _ _ => decide (m = n)
    | _ => false
  | .bl b, _, _, p => match p with
    | .Constant (.bool m) _ _ => decide (m = b)
    | _ => false
  | .non, _, _, p => match p with
    | .Constant .none _ _ => true
    | _ => false
  | .str s, _, _, p => match p with
    | .Constant (.str m) _ _ => decide (m = s)
    | _ => false
  | .gl j, sc, _, p => match p with
    | .Name x _ => decide (k.cn[j]? = some x) && glB sc x && okN x
    | _ => false
  | .fn j, sc, _, p => match p with
    | .Name x _ => decide (k.fn[j]? = some x) && glB sc x && okN x
    | _ => false
  | .bin o a b, sc, fs, p => match p with
    | .BinOp x op y _ => bopE o op && okE a sc fs x && okE b sc fs y
    | _ => false
  | .neg a, sc, fs, p => match p with
    | .UnaryOp .USub x _ => okE a sc fs x
    | _ => false
  | .cmp o a b, sc, fs, p => match p with
    | .Compare x [op] [y] _ => copE o op && okE a sc fs x && okE b sc fs y && !isSet y
    | _ => false
  | .chain o q a b d, sc, fs, p => match p with
    | .Compare x [op, op2] [y, z] _ => copE o op && copE q op2 && okE a sc fs x && okE b sc fs y && okE d sc fs z && !isSet z
    | _ => false
  | .chain3 o q r a b d e, sc, fs, p => match p with
    | .Compare x [op, op2, op3] [y, z, u] _ => copE o op && copE q op2 && copE r op3 && okE a sc fs x && okE b sc fs y && okE d sc fs z && okE e sc fs u && !isSet u
    | _ => false
  | .p1 o a, sc, fs, p => match p1X o p with
    | some (q, ns) => ns.all (glB sc) && okE a sc fs q && !isStar q
    | none => false
  | .p2 o a b, sc, fs, p => match p2X o p with
    | some (q, r, ns) => ns.all (glB sc) && okE a sc fs q && okE b sc fs r && !isStar q && !isStar r
    | none => false
  | .and es, sc, fs, p => match p with
    | .BoolOp .And ps _ => okEs es sc fs ps && !es.isEmpty
    | _ => false
  | .or es, sc, fs, p => match p with
    | .BoolOp .Or ps _ => okEs es sc fs ps && !es.isEmpty
    | _ => false
  | .not a, sc, fs, p => match p with
    | .UnaryOp .Not x _ => okE a sc fs x
    | _ => false
  | .ife t a b, sc, fs, p => match p with
    | .IfExp x y z _ => okE t sc fs x && okE a sc fs y && okE b sc fs z
    | _ => false
  | .tup es, sc, fs, p => match p with
    | .Tuple ps _ _ => okEs es sc fs ps && es.all nbE
    | _ => false
  | .lst es, sc, fs, p => match p with
    | .List ps _ => okEs es sc fs ps && es.all nbE
    | _ => false
  | .ix a b, sc, fs, p => match p with
    | .Subscript x y _ => okE a sc fs x && okE b sc fs y && !isSlice y
    | _ => false
  | .sl a l h, sc, fs, p => match p with
    | .Subscript x (.Slice lo hi none _) _ => okE a sc fs x && okO l sc fs lo && okO h sc fs hi
    | _ => false
  | .nop, _, _, _ => false
  | .call j es, sc, fs, p => match p with
    | .Call (.Name x _) ps [] _ => decide (k.fn[j]? = some x) && glB sc x && okN x && okEs es sc fs ps && es.all nbE
    | _ => false
  | .callv i es, sc, fs, p => match p with
    | .Call (.Name x _) (q :: ps) [] _ => slotB k i x && visB sc x && okN x && okEs es sc fs (q :: ps) && es.all nbE
    | _ => false
  | .b1 f a, sc, fs, p => match p with
    | .Call (.Name x _) [q] [] _ => decide (x = b1N f) && glB sc x && okE a sc fs q && !isStar q
    | _ => false
  | .b2 f a b, sc, fs, p => match p with
    | .Call (.Name x _) [q, r] [] _ => decide (x = b2N f) && glB sc x && okE a sc fs q && !isStar q && okE b sc fs r && !isStar r
    | _ => false
  | .isi a t, sc, fs, p => match p with
    | .Call (.Name x _) [q, .Name y _] [] _ => decide (x = "isinstance") && glB sc x && okE a sc fs q && !isStar q && decide (y = tyN t) && glB sc y
    | _ => false
  | .lc elt tg it cond own, sc, fs, p => match p with
    | .ListComp pe [⟨ptg, pit, ifs, 0⟩] scope _ => okI it sc fs ptg pit && L2.blkC k.N sc scope (ownP k own) && okTg k (L2.relS scope sc) (some scope) tg ptg && okC cond (L2.relS scope sc) (some scope) ifs && okE elt (L2.relS scope sc) (some scope) pe && nbE elt && (slots tg).all (fun i => decide (i ∈ own)) && !isSet pit
    | _ => false
  | .itr _, _, _, _ => false
  | .rng1 _, _, _, _ => false
  | .rng2 _ _, _, _, _ => false
  | .zip2 _ _, _, _, _ => false
  | .enum _, _, _, _ => false
  | .flt f a, sc, _, p => k.flq f a sc p
def okEs : List E → Scope → Option Scope → List Expr → Bool
  | [], _, _, ps => ps.isEmpty
  | e :: r, sc, fs, ps => match ps with
    | p :: ps => okE e sc fs p && !isStar p && okEs r sc fs ps
    | [] => false
def okC : List E → Scope → Option Scope → List Expr → Bool
  | [], _, _, ps => ps.isEmpty
  | e :: r, sc, fs, ps => match r, ps with
    | [], [p] => okE e sc fs p
    | _, _ => false
def okO : E → Scope → Option Scope → Option Expr → Bool
  | .nop, _, _, p => p.isNone
  | .itr a, sc, fs, p => match p with
    | some x => okE a sc fs x
    | none => false
  | _, _, _, _ => false
def okI : E → Scope → Option Scope → Expr → Expr → Bool
  | .itr a, sc, fs, _, p => okE a sc fs p
  | .rng1 a, sc, fs, _, p => match p with
    | .Call (.Name x _) [q] [] _ => decide (x = "range") && glB sc x && okE a sc fs q && !isStar q
    | _ => false
  | .rng2 a b, sc, fs, _, p => match p with
    | .Call (.Name x _) [q, r] [] _ => decide (x = "range") && glB sc x && okE a sc fs q && !isStar q && okE b sc fs r && !isStar r
    | _ => false
  | .zip2 a b, sc, fs, tg, p => match tg, p with
    | .Tuple .., .Call (.Name x _) [q, r] [] _ => decide (x = "zip") && glB sc x && okE a sc fs q && !isStar q && okE b sc fs r && !isStar r
    | _, _ => false
  | .enum a, sc, fs, tg, p => match tg, p with
    | .Tuple .., .Call (.Name x _) [q] [] _ => decide (x = "enumerate") && glB sc x && okE a sc fs q && !isStar q
    | _, _ => false
  | _, _, _, _, _ => false
end
end
end PX

/-! # PX: expressions are what the tree says -/
namespace PX
open PySem PySem.Spec PyProof.Rows
open L2 (V HO Hp upd SqT SqL Rd TE TT TA TS TI TG Cx PE PT PA PS PSs PI PG Inv upd_same upd_ne OpR CallR IxR RelV Vals Room Vis Gl Loc)

def bnames : List Str := ["len", "abs", "int", "sum", "all", "any", "tuple", "list", "sorted", "min", "max", "isinstance", "bool", "str", "range", "zip", "enumerate", "set", "dict"]
/-- alike in all that a lambda's maker is asked for -/
structure Like (X Y : Cx) : Prop where
  prog : Y.prog = X.prog
  w : Y.w = X.w
  K : Y.K = X.K
  mg : Y.mg = X.mg
  base : Y.base = X.base
  A : Y.A = X.A
  N : Y.N = X.N
  code : Y.env.code = X.env.code
  qual : Y.env.qual = X.env.qual
theorem Like.refl (X : Cx) : Like X X := ⟨rfl, rfl, rfl, rfl, rfl, rfl, rfl, rfl, rfl⟩
theorem Like.trans {X Y Z : Cx} (a : Like X Y) (b : Like Y Z) : Like X Z :=
  ⟨b.prog.trans a.prog, b.w.trans a.w, b.K.trans a.K, b.mg.trans a.mg, b.base.trans a.base, b.A.trans a.A, b.N.trans a.N, b.code.trans a.code, b.qual.trans a.qual⟩
structure Sta (k : Ck) (T : Tab) (cl : Cl) (n : Nat) (sc : Scope) (fs : Option Scope) (X : Cx) (G : Gx) : Prop where
  hN : X.N = k.N
  nd : k.N.Nodup
  hsc : X.env.scope = sc
  calm : X.calm = true
  hK : X.K = G.K
  room : Room n X.A
  tk : L2N.Takes X (fun cls d _ H => G.E cls d H)
  fns : ∀ (j : Nat) (x : Str), k.fn[j]? = some x → FnI G.toGs X n j x (cl j)
  fnv : ∀ (j : Nat) (a : Addr), G.fa j = some a → ∃ y, FnI G.toGs X n j y (cl j)
  cns : ∀ (j : Nat) (x : Str), k.cn[j]? = some x → ∃ u v d, X.mg x = some u ∧ RelV v u ∧ T.consts[j]? = some d ∧ (∀ A ca H, Rp G.K G.fa ca A H v d) ∧ ∀ ds, d ≠ .own ds
  blt : ∀ x ∈ bnames, X.mg x = none
  hfn : ∀ x, fnB fs x = true → X.fn x = true
  flt : ∀ (Y : Cx), Like X Y → ∀ (f : Nat) (a : E) (p : Expr) (nb : Bool) (G' : Gx), G'.toGs = G.toGs → k.flq f a Y.env.scope p = true → PE Y p (tEv G' nb (ev T cl (.flt f a)))
section
variable {k : Ck} {T : Tab} {cl : Cl} {n : Nat} {sc : Scope} {fs : Option Scope} {X : Cx} {G : Gx}
theorem okN_d {x : Str} (h : okN x = true) : (x == ("__debug__" : Str)) = false ∧ (x == ("__classdict__" : Str)) = false := by
  unfold okN at h
  simpa using h
theorem vis_of (S : Sta k T cl n sc fs X G) {x : Str} (h : visB sc x = true) : Vis X.env.scope x := by
  rw [S.hsc]
  unfold visB at h
  unfold L2.Vis
  split at h <;> first | (cases h; done) | simp_all
theorem gl_of (S : Sta k T cl n sc fs X G) {x : Str} (h : glB sc x = true) : Gl X x := by
  unfold glB at h
  have h := of_decide_eq_true h
  rw [← S.hsc] at h
  exact h
theorem slot_of (S : Sta k T cl n sc fs X G) {i : Nat} {x : Str} (h : slotB k i x = true) : X.N[i]? = some x := by
  rw [S.hN]
  exact of_decide_eq_true h
theorem loc_of (S : Sta k T cl n sc fs X G) {x : Str} (h : locB sc fs x = true) : Loc X.env.scope x ∧ (X.fn x = true ∨ X.env.scope.names.lookup x = some .local) := by
  rw [S.hsc]
  unfold locB at h
  unfold L2.Loc
  split at h
  · rename_i e; exact ⟨.inl e, .inr e⟩
  · rename_i e; exact ⟨.inr e, .inl (S.hfn x h)⟩
  · cases h
theorem hu_of (S : Sta k T cl n sc fs X G) : X.A.units + 64 < cLine := S.room.units
/-- within a comprehension -/
theorem Sta.blk (S : Sta k T cl n sc fs X G) (scope : Scope) (O : Addr → Prop) (s : Shared) (H : Hp) (C' : Addr) (cls : List (Str × Addr)) (fp : List Addr) :
    Sta k T cl n (L2.relS scope sc) (some scope) (X.blk s H scope (compEnvC scope cls C' X.env) fp) (G.blk O) where
  hN := S.hN
  nd := S.nd
  hsc := by
    show relabel scope X.env = L2.relS scope sc
    rw [← S.hsc]
    rfl
  calm := S.calm
  hK := S.hK
  room := S.room
  tk := fun u s' hx => by
    obtain ⟨a, B, sI, pins, σ, H, cls, d, _, _, _, _, _, _, _, _, w⟩ := hx
    exact w.elim
  fns := fun j x h => ⟨(S.fns j x h).ex⟩
  fnv := fun j a h => let ⟨y, q⟩ := S.fnv j a h; ⟨y, ⟨q.ex⟩⟩
  cns := S.cns
  blt := S.blt
  hfn := fun x h => h
  flt := fun Y hY f a p nb G' hG h => S.flt Y ((⟨rfl, rfl, rfl, rfl, rfl, rfl, rfl, rfl, rfl⟩ : Like X (X.blk s H scope (compEnvC scope cls C' X.env) fp)).trans hY) f a p nb G' hG h
theorem pe_nb {f : Env → C → R D} {e : Expr} {nb : Bool} (h : PE X e (tEv G nb f)) {nb' : Bool} (hn : nb' = true → nb = true) : PE X e (tEv G nb' f) := pe_imp h fun σ H Q ⟨env, c, R, q⟩ => ⟨env, c, R, by
  generalize f env c = r at q ⊢
  cases r with
  | no => exact q
  | ex _ _ => exact q
  | ok d c1 => exact fun v H' R' s rb rp fr => q v H' R' s rb (fun z => rp (hn z)) fr⟩
theorem pe_any {f : Env → C → R D} {e : Expr} (h : ∀ nb, PE X e (tEv G nb f)) {nb : Bool} : PE X e (tEv G nb f) := h nb
theorem pt_no {e : Expr} {f : Env → C → R Bool} (h : ∀ env c, f env c = .no) : PT X e (tEvT G f) := ⟨fun _ _ _ _ _ _ ⟨env, c, _, q⟩ => by rw [h] at q; exact q.elim⟩
theorem pt_eq {e : Expr} {f g : Env → C → R Bool} (h : PT X e (tEvT G f)) (hg : ∀ env c, g env c = f env c) : PT X e (tEvT G g) := pt_imp h fun σ H Q ⟨env, c, R, q⟩ => ⟨env, c, R, by rw [← hg]; exact q⟩
theorem pe_eq {e : Expr} {f g : Env → C → R D} {nb : Bool} (h : PE X e (tEv G nb f)) (hg : ∀ env c, g env c = f env c) : PE X e (tEv G nb g) := pe_imp h fun σ H Q ⟨env, c, R, q⟩ => ⟨env, c, R, by rw [← hg]; exact q⟩
theorem okEs_len : ∀ {es : List E} {ps : List Expr}, okEs k es sc fs ps = true → ps.length = es.length
  | [], ps, h => by
    simp only [okEs] at h
    cases ps with
    | nil => rfl
    | cons _ _ => cases h
  | e :: r, ps, h => by
    cases ps with
    | nil => simp [okEs] at h
    | cons p ps =>
      simp only [okEs, Bool.and_eq_true] at h
      simp [okEs_len h.2]
theorem okEs_star : ∀ {es : List E} {ps : List Expr}, okEs k es sc fs ps = true → ps.all (fun e => !isStar e) = true
  | [], ps, h => by
    simp only [okEs] at h
    cases ps with
    | nil => rfl
    | cons _ _ => cases h
  | e :: r, ps, h => by
    cases ps with
    | nil => rfl
    | cons p ps =>
      simp only [okEs, Bool.and_eq_true] at h
      rw [List.all_cons, okEs_star h.2, h.1.2]
      rfl
theorem se_gl' (S : Sta k T cl n sc fs X G) {j : Nat} {x : Str} {pos : Pos} {nb : Bool} (h1 : k.cn[j]? = some x) (h2 : glB sc x = true) (h3 : okN x = true) : PE X (.Name x pos) (tEv G nb (ev T cl (.gl j))) := by
  obtain ⟨u, v, d, e1, r, e2, rp, no⟩ := S.cns j x h1
  exact se_gl (gl_of S h2) e1 r e2 rp no (okN_d h3).1
theorem bn_mem {f : B1} : b1N f ∈ bnames := by cases f <;> decide
theorem bn_mem2 {f : B2} : b2N f ∈ bnames := by cases f <;> decide
theorem p1_names {o : P1} {p q : Expr} {ns : List Str} (h : p1X o p = some (q, ns)) : ∀ n ∈ ns, n ∈ bnames := by
  cases o <;> (unfold p1X at h; simp only at h; split at h <;> first | (cases h; done) | skip) <;> (split at h <;> first | (cases h; done) | skip) <;> (cases h; decide)
theorem p2_names {o : P2} {p q r : Expr} {ns : List Str} (h : p2X o p = some (q, r, ns)) : ∀ n ∈ ns, n ∈ bnames := by
  cases o <;> (unfold p2X at h; simp only at h; split at h <;> first | (cases h; done) | skip) <;> (split at h <;> first | (cases h; done) | skip) <;> (cases h; decide)
theorem ty_mem {t : Ty} : tyN t ∈ bnames := by cases t <;> decide
theorem tgs_ok (S : Sta k T cl n sc fs X G) : ∀ {ts : List Tg} {ps : List Expr}, okTgs k sc fs ts ps = true → ps.all (fun e => !isStar e) = true ∧ ps.length = ts.length
  | [], ps, h => by
    simp only [okTgs] at h
    cases ps with
    | nil => exact ⟨rfl, rfl⟩
    | cons _ _ => cases h
  | t :: l, ps, h => by
    cases ps with
    | nil => simp [okTgs] at h
    | cons p ps =>
      simp only [okTgs, Bool.and_eq_true] at h
      obtain ⟨h1, h2⟩ := tgs_ok S h.2
      refine ⟨?_, by simp [h2]⟩
      rw [List.all_cons, h1]
      have : isStar p = false := by
        cases p <;> first | rfl | skip
        cases t <;> simp [okTg] at h
      rw [this]
      rfl
mutual
theorem sTg (S : Sta k T cl n sc fs X G) : ∀ (t : Tg) (p : Expr), okTg k sc fs t p = true → PG X p (tTg G (slots t) (tgt t))
  | .n i, p, h => by
    simp only [okTg] at h
    split at h
    · simp only [Bool.and_eq_true] at h
      obtain ⟨h1, h2⟩ := loc_of S h.2
      exact sg_n (by rw [S.hN]; exact S.nd) (slot_of S h.1) h1 h2
    · cases h
  | .t l, p, h => by
    simp only [okTg] at h
    split at h
    · obtain ⟨h1, h2⟩ := tgs_ok S h
      exact sg_t S.calm S.hK (sTgs S l _ h) h1 h2
    · cases h
theorem sTgs (S : Sta k T cl n sc fs X G) : ∀ (l : List Tg) (ps : List Expr), okTgs k sc fs l ps = true → L2.PGs X ps (tTgs G (slotss l) (tgts l))
  | [], ps, h => by
    simp only [okTgs] at h
    cases ps with
    | nil => exact sgs_nil
    | cons _ _ => cases h
  | t :: l, ps, h => by
    cases ps with
    | nil => simp [okTgs] at h
    | cons p ps =>
      have h0 := h
      simp only [okTgs, Bool.and_eq_true] at h
      have hs := (tgs_ok S h0).1
      rw [List.all_cons, Bool.and_eq_true, Bool.not_eq_true'] at hs
      exact sgs_cons (sTg S t p h.1) (sTgs S l ps h.2) hs.1
end
end
end PX

/-! # PX: expressions are what the tree says -/
namespace PX
open PySem PySem.Spec PyProof.Rows
open L2 (V HO Hp upd SqT SqL Rd TE TT TA TS TI TG Cx PE PT PA PS PSs PI PG Inv upd_same upd_ne OpR CallR IxR RelV Vals Room Vis Gl Loc)
section
variable {k : Ck} {T : Tab} {cl : Cl} {n : Nat}
theorem no_set {e : Expr} {env : PySem.Env} (h : isSet e = false) : ∀ x, foldedSetIterable e env x = pure x := fun x => by
  cases e <;> first | (cases h; done) | rfl
theorem true_nb {a b : Bool} (h : (a && b) = true) : a = true ∧ b = true := by simpa using h
theorem blk_tg {X : Cx} {G : Gx} {e : Expr} {l : List Nat} {f : D → Env → Option Env} (h : ∀ O, PG X e (tTg (G.blk O) l f)) : PG X e (tLcG G l f) := ⟨fun pins s σ H v u Q I r ⟨O, q⟩ => (h O).run pins s σ H v u Q I r q⟩
theorem blk_t {X : Cx} {G : Gx} {es : List Expr} {f : Env → C → R Bool} (h : ∀ O, L2.PTs X es (tEvT (G.blk O) f)) : L2.PTs X es (tLcT G f) := ⟨fun pins s σ H Q I ⟨O, q⟩ => (h O).run pins s σ H Q I q⟩
theorem blk_e {X : Cx} {G : Gx} {e : Expr} {f : Env → C → R D} (h : ∀ O, PE X e (tEv (G.blk O) true f)) : PE X e (tLcE G f) := ⟨fun pins s σ H Q I ⟨O, q⟩ => (h O).run pins s σ H Q I q⟩
theorem own_fst {k : Ck} {own : List Nat} : (ownP k own).map (·.2) = own := by
  unfold ownP
  rw [List.map_map]
  exact List.map_id' own
theorem nbL2 {e e2 : E} {r : List E} : nbL (e :: e2 :: r) = nbL (e2 :: r) := by
  rw [nbL]
  intro z; cases z
theorem evand2 {e e2 : E} {r : List E} {env : Env} {c : C} : evand T cl (e :: e2 :: r) env c = (ev T cl e env c).bind fun x c => match x with | .bl true => evand T cl (e2 :: r) env c | .bl false => .ok (.bl false) c | _ => .no := by
  rw [evand] <;> first | rfl | (intro z; cases z)
theorem evor2 {e e2 : E} {r : List E} {env : Env} {c : C} : evor T cl (e :: e2 :: r) env c = (ev T cl e env c).bind fun x c => match x with | .bl false => evor T cl (e2 :: r) env c | .bl true => .ok (.bl true) c | _ => .no := by
  rw [evor] <;> first | rfl | (intro z; cases z)
theorem evtand2 {e e2 : E} {r : List E} {env : Env} {c : C} : evtand T cl (e :: e2 :: r) env c = (evt T cl e env c).bind fun x c => if x then evtand T cl (e2 :: r) env c else .ok false c := by
  rw [evtand]
  intro z; cases z
theorem evtor2 {e e2 : E} {r : List E} {env : Env} {c : C} : evtor T cl (e :: e2 :: r) env c = (evt T cl e env c).bind fun x c => if x then .ok true c else evtor T cl (e2 :: r) env c := by
  rw [evtor]
  intro z; cases z
mutual
theorem sE : ∀ (e : E) (sc : Scope) (fs : Option Scope) (p : Expr), okE k e sc fs p = true → ∀ (X : Cx) (G : Gx), Sta k T cl n sc fs X G → PE X p (tEv G (nbE e) (ev T cl e))
  | .v i, sc, fs, p, h, X, G, S => by
    simp only [okE] at h
    split at h
    · simp only [Bool.and_eq_true] at h
      obtain ⟨h1, h2⟩ := okN_d h.2
      exact se_v (slot_of S h.1.1) (vis_of S h.1.2) h1 h2
    · cases h
  | .vb i, sc, fs, p, h, X, G, S => by
    simp only [okE] at h
    split at h
    · simp only [Bool.and_eq_true] at h
      obtain ⟨h1, h2⟩ := okN_d h.2
      exact se_vb (slot_of S h.1.1) (vis_of S h.1.2) h1 h2
    · cases h
  | .int m, sc, fs, p, h, X, G, S => by
    simp only [okE] at h
    split at h
    · cases of_decide_eq_true h; exact se_int
    · cases h
  | .bl m, sc, fs, p, h, X, G, S => by
    simp only [okE] at h
    split at h
    · cases of_decide_eq_true h; exact se_bl
    · cases h
  | .non, sc, fs, p, h, X, G, S => by
    simp only [okE] at h
    split at h
    · exact se_non
    · cases h
  | .str m, sc, fs, p, h, X, G, S => by
    simp only [okE] at h
    split at h
    · cases of_decide_eq_true h; exact se_str
    · cases h
  | .gl j, sc, fs, p, h, X, G, S => by
    simp only [okE] at h
    split at h
    · simp only [Bool.and_eq_true, decide_eq_true_eq] at h
      exact se_gl' S h.1.1 h.1.2 h.2
    · cases h
  | .fn j, sc, fs, p, h, X, G, S => by
    simp only [okE] at h
    split at h
    · simp only [Bool.and_eq_true, decide_eq_true_eq] at h
      obtain ⟨a, fd, ps, hfa, hm, _⟩ := (S.fns j _ h.1.1).ex
      exact se_fn (gl_of S h.1.2) hm hfa (okN_d h.2).1
    · cases h
  | .bin o a b, sc, fs, p, h, X, G, S => by
    simp only [okE] at h
    split at h
    · simp only [Bool.and_eq_true] at h
      exact pe_eq (se_op (bop_ok S.hK h.1.1) (sE a sc fs _ h.1.2 X G S) (sE b sc fs _ h.2 X G S)) fun env c => by simp only [ev] <;> rfl
    · cases h
  | .neg a, sc, fs, p, h, X, G, S => by
    simp only [okE] at h
    split at h
    · exact pe_eq (se_neg (sE a sc fs _ h X G S)) fun env c => by simp only [ev] <;> rfl
    · cases h
  | .cmp o a b, sc, fs, p, h, X, G, S => by
    simp only [okE] at h
    split at h
    · simp only [Bool.and_eq_true, Bool.not_eq_true'] at h
      exact pe_eq (se_cmp (cop_ok S.hK (hu_of S) h.1.1.1) (sE a sc fs _ h.1.1.2 X G S) (sE b sc fs _ h.1.2 X G S) (no_mark h.2)) fun env c => by simp only [ev] <;> rfl
    · cases h
  | .chain o q a b d, sc, fs, p, h, X, G, S => by
    simp only [okE] at h
    split at h
    · simp only [Bool.and_eq_true, Bool.not_eq_true'] at h
      exact pe_eq (se_chain S.hK (hu_of S) h.1.1.1.1.1 h.1.1.1.1.2 (sE a sc fs _ h.1.1.1.2 X G S) (sE b sc fs _ h.1.1.2 X G S) (sE d sc fs _ h.1.2 X G S) h.2) fun env c => by simp only [ev] <;> rfl
    · cases h
  | .chain3 o q r a b d e, sc, fs, p, h, X, G, S => by
    simp only [okE] at h
    split at h
    · simp only [Bool.and_eq_true, Bool.not_eq_true'] at h
      obtain ⟨⟨⟨⟨⟨⟨⟨h1, h2⟩, h3⟩, h4⟩, h5⟩, h6⟩, h7⟩, h8⟩ := h
      exact pe_eq (se_ch3 S.hK (hu_of S) h1 h2 h3 (sE a sc fs _ h4 X G S) (sE b sc fs _ h5 X G S) (sE d sc fs _ h6 X G S) (sE e sc fs _ h7 X G S) h8) fun env c => by simp only [ev] <;> rfl
    · cases h
  | .p1 o a, sc, fs, p, h, X, G, S => by
    simp only [okE] at h
    split at h
    · rename_i q ns e
      simp only [Bool.and_eq_true, Bool.not_eq_true'] at h
      exact pe_eq (se_p1 S.hK S.calm e (fun n hn => ⟨gl_of S (List.all_eq_true.mp h.1.1 n hn), S.blt _ (p1_names e n hn)⟩) (sE a sc fs _ h.1.2 X G S) h.2) fun env c => by simp only [ev]
    · cases h
  | .p2 o a b, sc, fs, p, h, X, G, S => by
    simp only [okE] at h
    split at h
    · rename_i q r ns e
      simp only [Bool.and_eq_true, Bool.not_eq_true'] at h
      obtain ⟨⟨⟨⟨h1, h2⟩, h3⟩, h4⟩, h5⟩ := h
      exact pe_eq (se_p2 S.calm e (fun n hn => ⟨gl_of S (List.all_eq_true.mp h1 n hn), S.blt _ (p2_names e n hn)⟩) (sE a sc fs _ h2 X G S) (sE b sc fs _ h3 X G S) h4 h5) fun env c => by simp only [ev]
    · cases h
  | .and es, sc, fs, p, h, X, G, S => by
    simp only [okE] at h
    split at h
    · simp only [Bool.and_eq_true, Bool.not_eq_true'] at h
      exact pe_eq (sAnd es sc fs _ _ h.1 (by intro z; subst z; exact absurd h.2 (by simp)) X G S) fun env c => by simp only [ev]
    · cases h
  | .or es, sc, fs, p, h, X, G, S => by
    simp only [okE] at h
    split at h
    · simp only [Bool.and_eq_true, Bool.not_eq_true'] at h
      exact pe_eq (sOr es sc fs _ _ h.1 (by intro z; subst z; exact absurd h.2 (by simp)) X G S) fun env c => by simp only [ev]
    · cases h
  | .not a, sc, fs, p, h, X, G, S => by
    simp only [okE] at h
    split at h
    · exact pe_eq (se_not S.hK (sE a sc fs _ h X G S)) fun env c => by simp only [ev]
    · cases h
  | .ife t a b, sc, fs, p, h, X, G, S => by
    simp only [okE] at h
    split at h
    · simp only [Bool.and_eq_true] at h
      refine pe_eq (se_ife (sT t sc fs _ h.1.1 X G S) (pe_nb (sE a sc fs _ h.1.2 X G S) fun z => ?_) (pe_nb (sE b sc fs _ h.2 X G S) fun z => ?_)) fun env c => by simp only [ev]
      · rw [nbE] at z; exact (true_nb z).1
      · rw [nbE] at z; exact (true_nb z).2
    · cases h
  | .tup es, sc, fs, p, h, X, G, S => by
    simp only [okE] at h
    split at h
    · simp only [Bool.and_eq_true] at h
      exact se_tup (sEs es sc fs _ h.1 h.2 X G S)
    · cases h
  | .lst es, sc, fs, p, h, X, G, S => by
    simp only [okE] at h
    split at h
    · simp only [Bool.and_eq_true] at h
      exact se_lst (sEs es sc fs _ h.1 h.2 X G S)
    · cases h
  | .ix a b, sc, fs, p, h, X, G, S => by
    simp only [okE] at h
    split at h
    · simp only [Bool.and_eq_true, Bool.not_eq_true'] at h
      exact pe_eq (se_ix S.hK (sE a sc fs _ h.1.1 X G S) (sE b sc fs _ h.1.2 X G S) h.2) fun env c => by simp only [ev] <;> rfl
    · cases h
  | .sl a l u, sc, fs, p, h, X, G, S => by
    simp only [okE] at h
    split at h
    · simp only [Bool.and_eq_true] at h
      exact se_sl S.hK (sE a sc fs _ h.1.1 X G S) (sO l sc fs _ h.1.2 X G S) (sO u sc fs _ h.2 X G S)
    · cases h
  | .nop, _, _, _, h, _, _, _ => by simp [okE] at h
  | .call j es, sc, fs, p, h, X, G, S => by
    simp only [okE] at h
    split at h
    · simp only [Bool.and_eq_true, decide_eq_true_eq] at h
      exact se_call (S.fns j _ h.1.1.1.1) S.room S.tk (gl_of S h.1.1.1.2) (okN_d h.1.1.2).1 (sEs es sc fs _ h.1.2 h.2 X G S) (okEs_star h.1.2) (okEs_len h.1.2)
    · cases h
  | .callv i es, sc, fs, p, h, X, G, S => by
    simp only [okE] at h
    split at h
    · simp only [Bool.and_eq_true] at h
      obtain ⟨h1, h2⟩ := okN_d h.1.1.2
      exact se_callv S.fnv S.room S.tk (slot_of S h.1.1.1.1) (vis_of S h.1.1.1.2) h1 h2 (sEs es sc fs _ h.1.2 h.2 X G S) (okEs_star h.1.2)
    · cases h
  | .b1 f a, sc, fs, p, h, X, G, S => by
    simp only [okE] at h
    split at h
    · simp only [Bool.and_eq_true, decide_eq_true_eq, Bool.not_eq_true'] at h
      have e := h.1.1.1
      subst e
      exact pe_eq (se_b1 S.hK S.calm (gl_of S h.1.1.2) (S.blt _ bn_mem) (sE a sc fs _ h.1.2 X G S) h.2) fun env c => by simp only [ev]
    · cases h
  | .b2 f a b, sc, fs, p, h, X, G, S => by
    simp only [okE] at h
    split at h
    · simp only [Bool.and_eq_true, decide_eq_true_eq, Bool.not_eq_true'] at h
      have e := h.1.1.1.1.1
      subst e
      exact pe_eq (se_b2 S.calm (gl_of S h.1.1.1.1.2) (S.blt _ bn_mem2) (sE a sc fs _ h.1.1.1.2 X G S) (sE b sc fs _ h.1.2 X G S) h.1.1.2 h.2) fun env c => by simp only [ev]
    · cases h
  | .isi a t, sc, fs, p, h, X, G, S => by
    simp only [okE] at h
    split at h
    · simp only [Bool.and_eq_true, decide_eq_true_eq, Bool.not_eq_true'] at h
      have e := h.1.1.1.1.1
      subst e
      have e2 := h.1.2
      subst e2
      exact pe_eq (se_isi S.hK (gl_of S h.1.1.1.1.2) (S.blt _ (by decide)) (gl_of S h.2) (S.blt _ ty_mem) (sE a sc fs _ h.1.1.1.2 X G S) h.1.1.2) fun env c => by simp only [ev]
    · cases h
  | .lc elt tg it cond own, sc, fs, p, h, X, G, S => by
    simp only [okE] at h
    split at h
    · rename_i pe ptg pit ifs scope pos
      simp only [Bool.and_eq_true, Bool.not_eq_true'] at h
      obtain ⟨⟨⟨⟨⟨⟨⟨h1, h2⟩, h3⟩, h4⟩, h5⟩, h6⟩, h7⟩, h8⟩ := h
      have hsub : ∀ i ∈ slots tg, i ∈ own := fun i hi => of_decide_eq_true (List.all_eq_true.mp h7 i hi)
      have hb : L2.BlkOk X.N X.env.scope scope (ownP k own) := L2.blkOk_by (by rw [S.hN, S.hsc]; exact h2)
      refine pe_imp (L2.pe_lc (g := tLcG G (slots tg) (tgt tg)) (tt := tLcT G (evc T cl cond)) (te := tLcE G (ev T cl elt)) S.calm (by rw [S.hN]; exact S.nd) (sI it sc fs ptg pit h1 X G S) hb
        (fun s H C' cls fp => blk_tg fun O => sTg (S.blk scope O s H C' cls fp) tg ptg h3)
        (fun s H C' cls fp => blk_t fun O => sC cond _ _ _ h4 _ _ (S.blk scope O s H C' cls fp))
        (fun s H C' cls fp => blk_e fun O => ?_) (no_set h8)) fun σ H Q q => by rw [own_fst]; exact lc_read hsub q
      have := sE elt _ _ _ h5 _ _ (S.blk scope O s H C' cls fp)
      rw [h6] at this
      exact this
    · cases h
  | .itr _, _, _, _, h, _, _, _ => by simp [okE] at h
  | .rng1 _, _, _, _, h, _, _, _ => by simp [okE] at h
  | .rng2 _ _, _, _, _, h, _, _, _ => by simp [okE] at h
  | .zip2 _ _, _, _, _, h, _, _, _ => by simp [okE] at h
  | .enum _, _, _, _, h, _, _, _ => by simp [okE] at h
  | .flt f a, sc, fs, p, h, X, G, S => by
    simp only [okE] at h
    exact S.flt X (Like.refl X) f a p _ G rfl (by rw [S.hsc]; exact h)
theorem sEs : ∀ (es : List E) (sc : Scope) (fs : Option Scope) (ps : List Expr), okEs k es sc fs ps = true → es.all nbE = true → ∀ (X : Cx) (G : Gx), Sta k T cl n sc fs X G → PA X ps (tEvs G (evs T cl es))
  | [], sc, fs, ps, h, _, X, G, S => by
    simp only [okEs] at h
    cases ps with
    | nil => exact ses_nil
    | cons _ _ => cases h
  | e :: r, sc, fs, ps, h, hn, X, G, S => by
    cases ps with
    | nil => simp [okEs] at h
    | cons p ps =>
      simp only [okEs, Bool.and_eq_true, Bool.not_eq_true'] at h
      rw [List.all_cons, Bool.and_eq_true] at hn
      have := sE e sc fs p h.1.1 X G S
      rw [hn.1] at this
      exact ses_cons this (sEs r sc fs ps h.2 hn.2 X G S) h.1.2
theorem sAnd : ∀ (es : List E) (sc : Scope) (fs : Option Scope) (ps : List Expr) (pos : Pos), okEs k es sc fs ps = true → es ≠ [] → ∀ (X : Cx) (G : Gx), Sta k T cl n sc fs X G → PE X (.BoolOp .And ps pos) (tEv G (nbL es) (evand T cl es))
  | [], _, _, _, _, _, hn, _, _, _ => absurd rfl hn
  | e :: r, sc, fs, ps, pos, h, _, X, G, S => by
    cases ps with
    | nil => simp [okEs] at h
    | cons p ps =>
      simp only [okEs, Bool.and_eq_true, Bool.not_eq_true'] at h
      cases r with
      | nil =>
        cases ps with
        | nil => exact L2.pe_one (pe_eq (pe_nb (sE e sc fs p h.1.1 X G S) fun z => by rw [nbL] at z; exact z) fun env c => by simp only [evand])
        | cons _ _ => simp [okEs] at h
      | cons e2 r2 =>
        cases ps with
        | nil => simp [okEs] at h
        | cons p2 ps2 => exact pe_eq (pe_nb (se_and (sE e sc fs p h.1.1 X G S) (sAnd (e2 :: r2) sc fs (p2 :: ps2) pos h.2 (by simp) X G S)) fun z => by rw [nbL2] at z; exact z) fun env c => evand2
theorem sOr : ∀ (es : List E) (sc : Scope) (fs : Option Scope) (ps : List Expr) (pos : Pos), okEs k es sc fs ps = true → es ≠ [] → ∀ (X : Cx) (G : Gx), Sta k T cl n sc fs X G → PE X (.BoolOp .Or ps pos) (tEv G (nbL es) (evor T cl es))
  | [], _, _, _, _, _, hn, _, _, _ => absurd rfl hn
  | e :: r, sc, fs, ps, pos, h, _, X, G, S => by
    cases ps with
    | nil => simp [okEs] at h
    | cons p ps =>
      simp only [okEs, Bool.and_eq_true, Bool.not_eq_true'] at h
      cases r with
      | nil =>
        cases ps with
        | nil => exact L2.pe_one (pe_eq (pe_nb (sE e sc fs p h.1.1 X G S) fun z => by rw [nbL] at z; exact z) fun env c => by simp only [evor])
        | cons _ _ => simp [okEs] at h
      | cons e2 r2 =>
        cases ps with
        | nil => simp [okEs] at h
        | cons p2 ps2 => exact pe_eq (pe_nb (se_or (sE e sc fs p h.1.1 X G S) (sOr (e2 :: r2) sc fs (p2 :: ps2) pos h.2 (by simp) X G S)) fun z => by rw [nbL2] at z; exact z) fun env c => evor2
theorem sC : ∀ (es : List E) (sc : Scope) (fs : Option Scope) (ps : List Expr), okC k es sc fs ps = true → ∀ (X : Cx) (G : Gx), Sta k T cl n sc fs X G → L2.PTs X ps (tEvT G (evc T cl es))
  | [], sc, fs, ps, h, X, G, S => by
    simp only [okC] at h
    cases ps with
    | nil => exact ⟨fun pins s σ H Q I ⟨env, c, R, q⟩ => L2.pts_nil.run pins s σ H Q I (by simp only [evc] at q; exact q H R (Stp.refl _ _))⟩
    | cons _ _ => cases h
  | e :: r, sc, fs, ps, h, X, G, S => by
    simp only [okC] at h
    split at h
    · have := L2.pts_one (sT e sc fs _ h X G S)
      exact ⟨fun pins s σ H Q I ⟨env, c, R, q⟩ => this.run pins s σ H Q I ⟨env, c, R, by simp only [evc] at q; exact q⟩⟩
    · cases h
theorem sO : ∀ (e : E) (sc : Scope) (fs : Option Scope) (p : Option Expr), okO k e sc fs p = true → ∀ (X : Cx) (G : Gx), Sta k T cl n sc fs X G → L2.PO X p (tEvo G (evo T cl e))
  | .nop, sc, fs, p, h, X, G, S => by
    simp only [okO] at h
    cases p with
    | none => exact so_none
    | some _ => cases h
  | .itr a, sc, fs, p, h, X, G, S => by
    simp only [okO] at h
    cases p with
    | none => cases h
    | some x => exact so_some (sE a sc fs x h X G S)
  | .v _, _, _, _, h, _, _, _ => by simp [okO] at h
  | .vb _, _, _, _, h, _, _, _ => by simp [okO] at h
  | .int _, _, _, _, h, _, _, _ => by simp [okO] at h
  | .bl _, _, _, _, h, _, _, _ => by simp [okO] at h
  | .non, _, _, _, h, _, _, _ => by simp [okO] at h
  | .str _, _, _, _, h, _, _, _ => by simp [okO] at h
  | .gl _, _, _, _, h, _, _, _ => by simp [okO] at h
  | .fn _, _, _, _, h, _, _, _ => by simp [okO] at h
  | .bin _ _ _, _, _, _, h, _, _, _ => by simp [okO] at h
  | .neg _, _, _, _, h, _, _, _ => by simp [okO] at h
  | .cmp _ _ _, _, _, _, h, _, _, _ => by simp [okO] at h
  | .chain _ _ _ _ _, _, _, _, h, _, _, _ => by simp [okO] at h
  | .chain3 _ _ _ _ _ _ _, _, _, _, h, _, _, _ => by simp [okO] at h
  | .p1 _ _, _, _, _, h, _, _, _ => by simp [okO] at h
  | .p2 _ _ _, _, _, _, h, _, _, _ => by simp [okO] at h
  | .and _, _, _, _, h, _, _, _ => by simp [okO] at h
  | .or _, _, _, _, h, _, _, _ => by simp [okO] at h
  | .not _, _, _, _, h, _, _, _ => by simp [okO] at h
  | .ife _ _ _, _, _, _, h, _, _, _ => by simp [okO] at h
  | .tup _, _, _, _, h, _, _, _ => by simp [okO] at h
  | .lst _, _, _, _, h, _, _, _ => by simp [okO] at h
  | .ix _ _, _, _, _, h, _, _, _ => by simp [okO] at h
  | .sl _ _ _, _, _, _, h, _, _, _ => by simp [okO] at h
  | .call _ _, _, _, _, h, _, _, _ => by simp [okO] at h
  | .callv _ _, _, _, _, h, _, _, _ => by simp [okO] at h
  | .b1 _ _, _, _, _, h, _, _, _ => by simp [okO] at h
  | .b2 _ _ _, _, _, _, h, _, _, _ => by simp [okO] at h
  | .isi _ _, _, _, _, h, _, _, _ => by simp [okO] at h
  | .lc _ _ _ _ _, _, _, _, h, _, _, _ => by simp [okO] at h
  | .rng1 _, _, _, _, h, _, _, _ => by simp [okO] at h
  | .rng2 _ _, _, _, _, h, _, _, _ => by simp [okO] at h
  | .zip2 _ _, _, _, _, h, _, _, _ => by simp [okO] at h
  | .enum _, _, _, _, h, _, _, _ => by simp [okO] at h
  | .flt _ _, _, _, _, h, _, _, _ => by simp [okO] at h
theorem sI : ∀ (e : E) (sc : Scope) (fs : Option Scope) (tg p : Expr), okI k e sc fs tg p = true → ∀ (X : Cx) (G : Gx), Sta k T cl n sc fs X G → PI X tg p (tEvi G (nbI e) (evi T cl e))
  | .itr a, sc, fs, tg, p, h, X, G, S => by
    simp only [okI] at h
    exact si_itr S.hK (pe_nb (sE a sc fs p h X G S) fun z => by rw [nbI] at z; exact z)
  | .rng1 a, sc, fs, tg, p, h, X, G, S => by
    simp only [okI] at h
    split at h
    · simp only [Bool.and_eq_true, decide_eq_true_eq, Bool.not_eq_true'] at h
      have e := h.1.1.1
      subst e
      exact si_rng1 (gl_of S h.1.1.2) (S.blt _ (by decide)) (sE a sc fs _ h.1.2 X G S) h.2
    · cases h
  | .rng2 a b, sc, fs, tg, p, h, X, G, S => by
    simp only [okI] at h
    split at h
    · simp only [Bool.and_eq_true, decide_eq_true_eq, Bool.not_eq_true'] at h
      have e := h.1.1.1.1.1
      subst e
      exact si_rng2 (gl_of S h.1.1.1.1.2) (S.blt _ (by decide)) (sE a sc fs _ h.1.1.1.2 X G S) (sE b sc fs _ h.1.2 X G S) h.1.1.2 h.2
    · cases h
  | .zip2 a b, sc, fs, tg, p, h, X, G, S => by
    simp only [okI] at h
    split at h
    · simp only [Bool.and_eq_true, decide_eq_true_eq, Bool.not_eq_true'] at h
      have e := h.1.1.1.1.1
      subst e
      exact si_zip2 S.hK (gl_of S h.1.1.1.1.2) (S.blt _ (by decide)) (pe_nb (sE a sc fs _ h.1.1.1.2 X G S) fun z => by rw [nbI] at z; exact (true_nb z).1) (pe_nb (sE b sc fs _ h.1.2 X G S) fun z => by rw [nbI] at z; exact (true_nb z).2) h.1.1.2 h.2
    · cases h
  | .enum a, sc, fs, tg, p, h, X, G, S => by
    simp only [okI] at h
    split at h
    · simp only [Bool.and_eq_true, decide_eq_true_eq, Bool.not_eq_true'] at h
      have e := h.1.1.1
      subst e
      exact si_enum S.hK (gl_of S h.1.1.2) (S.blt _ (by decide)) (pe_nb (sE a sc fs _ h.1.2 X G S) fun z => by rw [nbI] at z; exact z) h.2
    · cases h
  | .v _, _, _, _, _, h, _, _, _ => by simp [okI] at h
  | .vb _, _, _, _, _, h, _, _, _ => by simp [okI] at h
  | .int _, _, _, _, _, h, _, _, _ => by simp [okI] at h
  | .bl _, _, _, _, _, h, _, _, _ => by simp [okI] at h
  | .non, _, _, _, _, h, _, _, _ => by simp [okI] at h
  | .str _, _, _, _, _, h, _, _, _ => by simp [okI] at h
  | .gl _, _, _, _, _, h, _, _, _ => by simp [okI] at h
  | .fn _, _, _, _, _, h, _, _, _ => by simp [okI] at h
  | .bin _ _ _, _, _, _, _, h, _, _, _ => by simp [okI] at h
  | .neg _, _, _, _, _, h, _, _, _ => by simp [okI] at h
  | .cmp _ _ _, _, _, _, _, h, _, _, _ => by simp [okI] at h
  | .chain _ _ _ _ _, _, _, _, _, h, _, _, _ => by simp [okI] at h
  | .chain3 _ _ _ _ _ _ _, _, _, _, _, h, _, _, _ => by simp [okI] at h
  | .p1 _ _, _, _, _, _, h, _, _, _ => by simp [okI] at h
  | .p2 _ _ _, _, _, _, _, h, _, _, _ => by simp [okI] at h
  | .and _, _, _, _, _, h, _, _, _ => by simp [okI] at h
  | .or _, _, _, _, _, h, _, _, _ => by simp [okI] at h
  | .not _, _, _, _, _, h, _, _, _ => by simp [okI] at h
  | .ife _ _ _, _, _, _, _, h, _, _, _ => by simp [okI] at h
  | .tup _, _, _, _, _, h, _, _, _ => by simp [okI] at h
  | .lst _, _, _, _, _, h, _, _, _ => by simp [okI] at h
  | .ix _ _, _, _, _, _, h, _, _, _ => by simp [okI] at h
  | .sl _ _ _, _, _, _, _, h, _, _, _ => by simp [okI] at h
  | .nop, _, _, _, _, h, _, _, _ => by simp [okI] at h
  | .call _ _, _, _, _, _, h, _, _, _ => by simp [okI] at h
  | .callv _ _, _, _, _, _, h, _, _, _ => by simp [okI] at h
  | .b1 _ _, _, _, _, _, h, _, _, _ => by simp [okI] at h
  | .b2 _ _ _, _, _, _, _, h, _, _, _ => by simp [okI] at h
  | .isi _ _, _, _, _, _, h, _, _, _ => by simp [okI] at h
  | .lc _ _ _ _ _, _, _, _, _, h, _, _, _ => by simp [okI] at h
  | .flt _ _, _, _, _, _, h, _, _, _ => by simp [okI] at h
theorem sT : ∀ (e : E) (sc : Scope) (fs : Option Scope) (p : Expr), okE k e sc fs p = true → ∀ (X : Cx) (G : Gx), Sta k T cl n sc fs X G → PT X p (tEvT G (evt T cl e))
  | .and es, sc, fs, p, h, X, G, S => by
    simp only [okE] at h
    split at h
    · simp only [Bool.and_eq_true, Bool.not_eq_true'] at h
      exact pt_eq (L2.PW.pt (sAndT es sc fs _ _ h.1 (by intro z; subst z; exact absurd h.2 (by simp)) X G S)) fun env c => by simp only [evt]
    · cases h
  | .or es, sc, fs, p, h, X, G, S => by
    simp only [okE] at h
    split at h
    · simp only [Bool.and_eq_true, Bool.not_eq_true'] at h
      exact pt_eq (L2.PW.pt (sOrT es sc fs _ _ h.1 (by intro z; subst z; exact absurd h.2 (by simp)) X G S)) fun env c => by simp only [evt]
    · cases h
  | .not a, sc, fs, p, h, X, G, S => by
    simp only [okE] at h
    split at h
    · exact pt_eq (st_not (sT a sc fs _ h X G S)) fun env c => by simp only [evt]
    · cases h
  | .ife t a b, sc, fs, p, h, X, G, S => by
    simp only [okE] at h
    split at h
    · simp only [Bool.and_eq_true] at h
      exact pt_eq (st_ife (sT t sc fs _ h.1.1 X G S) (sT a sc fs _ h.1.2 X G S) (sT b sc fs _ h.2 X G S)) fun env c => by simp only [evt]
    · cases h
  | .cmp o a b, sc, fs, p, h, X, G, S => by
    simp only [okE] at h
    split at h
    · simp only [Bool.and_eq_true, Bool.not_eq_true'] at h
      exact pt_eq (st_cmp S.hK (hu_of S) h.1.1.1 (sE a sc fs _ h.1.1.2 X G S) (sE b sc fs _ h.1.2 X G S) h.2) fun env c => by simp only [evt]
    · cases h
  | .chain o q a b d, sc, fs, p, h, X, G, S => by
    simp only [okE] at h
    split at h
    · simp only [Bool.and_eq_true, Bool.not_eq_true'] at h
      exact pt_eq (st_chain S.hK (hu_of S) h.1.1.1.1.1 h.1.1.1.1.2 (sE a sc fs _ h.1.1.1.2 X G S) (sE b sc fs _ h.1.1.2 X G S) (sE d sc fs _ h.1.2 X G S) h.2) fun env c => by simp only [evt] <;> rfl
    · cases h
  | .chain3 o q r a b d e, sc, fs, p, h, X, G, S => by
    simp only [okE] at h
    split at h
    · simp only [Bool.and_eq_true, Bool.not_eq_true'] at h
      obtain ⟨⟨⟨⟨⟨⟨⟨h1, h2⟩, h3⟩, h4⟩, h5⟩, h6⟩, h7⟩, h8⟩ := h
      exact pt_eq (st_ch3 S.hK (hu_of S) h1 h2 h3 (sE a sc fs _ h4 X G S) (sE b sc fs _ h5 X G S) (sE d sc fs _ h6 X G S) (sE e sc fs _ h7 X G S) h8) fun env c => by simp only [evt] <;> rfl
    · cases h
  | .p1 _ _, _, _, _, _, _, _, _ => pt_no fun env c => by simp only [evt]
  | .p2 _ _ _, _, _, _, _, _, _, _ => pt_no fun env c => by simp only [evt]
  | .bl m, sc, fs, p, h, X, G, S => by
    simp only [okE] at h
    split at h
    · cases of_decide_eq_true h; exact pt_eq st_bl fun env c => by simp only [evt]
    · cases h
  | .v i, sc, fs, p, h, X, G, S => by
    simp only [okE] at h
    split at h
    · simp only [Bool.and_eq_true] at h
      obtain ⟨h1, h2⟩ := okN_d h.2
      refine pt_eq (st_of S.hK (se_v (T := T) (cl := cl) (slot_of S h.1.1) (vis_of S h.1.2) h1 h2) fun _ => rfl) fun env c => ?_
      simp only [evt, ev]
      split <;> rfl
    · cases h
  | .vb i, sc, fs, p, h, X, G, S => by
    simp only [okE] at h
    split at h
    · simp only [Bool.and_eq_true] at h
      obtain ⟨h1, h2⟩ := okN_d h.2
      refine pt_eq (st_of S.hK (se_vb (T := T) (cl := cl) (slot_of S h.1.1) (vis_of S h.1.2) h1 h2) fun _ => rfl) fun env c => ?_
      simp only [evt, ev]
      split
      · rename_i d e
        show _ = lift (truth (norm d)) c
        cases d <;> rfl
      · rfl
    · cases h
  | .call j es, sc, fs, p, h, X, G, S => by
    simp only [okE] at h
    split at h
    · simp only [Bool.and_eq_true, decide_eq_true_eq] at h
      exact pt_eq (st_of S.hK (se_call (T := T) (nb := true) (S.fns j _ h.1.1.1.1) S.room S.tk (gl_of S h.1.1.1.2) (okN_d h.1.1.2).1 (sEs es sc fs _ h.1.2 h.2 X G S) (okEs_star h.1.2) (okEs_len h.1.2)) fun _ => rfl) fun env c => by simp only [evt, ev]
    · cases h
  | .callv i es, sc, fs, p, h, X, G, S => by
    simp only [okE] at h
    split at h
    · simp only [Bool.and_eq_true] at h
      obtain ⟨h1, h2⟩ := okN_d h.1.1.2
      exact pt_eq (st_of S.hK (se_callv (T := T) (nb := true) S.fnv S.room S.tk (slot_of S h.1.1.1.1) (vis_of S h.1.1.1.2) h1 h2 (sEs es sc fs _ h.1.2 h.2 X G S) (okEs_star h.1.2)) fun _ => rfl) fun env c => by simp only [evt, ev]
    · cases h
  | .b1 f a, sc, fs, p, h, X, G, S => by
    simp only [okE] at h
    split at h
    · simp only [Bool.and_eq_true, decide_eq_true_eq, Bool.not_eq_true'] at h
      have e := h.1.1.1
      subst e
      refine pt_eq (st_of S.hK (se_b1 (nb := true) (f := f) S.hK S.calm (gl_of S h.1.1.2) (S.blt _ bn_mem) (sE a sc fs _ h.1.2 X G S) h.2) fun _ => rfl) fun env c => ?_
      simp only [evt]
      cases ev T cl a env c <;> rfl
    · cases h
  | .isi a t, sc, fs, p, h, X, G, S => by
    simp only [okE] at h
    split at h
    · simp only [Bool.and_eq_true, decide_eq_true_eq, Bool.not_eq_true'] at h
      have e := h.1.1.1.1.1
      subst e
      have e2 := h.1.2
      subst e2
      refine pt_eq (st_of S.hK (se_isi (nb := true) (t := t) S.hK (gl_of S h.1.1.1.1.2) (S.blt _ (by decide)) (gl_of S h.2) (S.blt _ ty_mem) (sE a sc fs _ h.1.1.1.2 X G S) h.1.1.2) fun _ => rfl) fun env c => ?_
      simp only [evt]
      cases ev T cl a env c with
      | ok d c1 =>
        show lift (isiv d t) c1 = (lift ((isiv d t).map D.bl) c1).bind fun x c => lift (truth x) c
        cases isiv d t <;> rfl
      | ex _ _ => rfl
      | no => rfl
    · cases h
  | .ix a b, sc, fs, p, h, X, G, S => by
    simp only [okE] at h
    split at h
    · simp only [Bool.and_eq_true, Bool.not_eq_true'] at h
      exact pt_eq (st_of S.hK (se_ix (n := true) S.hK (sE a sc fs _ h.1.1 X G S) (sE b sc fs _ h.1.2 X G S) h.2) fun _ => rfl) fun env c => by simp only [evt] <;> rfl
    · cases h
  | .int _, _, _, _, _, _, _, _ => pt_no fun env c => by simp only [evt]
  | .non, _, _, _, _, _, _, _ => pt_no fun env c => by simp only [evt]
  | .str _, _, _, _, _, _, _, _ => pt_no fun env c => by simp only [evt]
  | .gl _, _, _, _, _, _, _, _ => pt_no fun env c => by simp only [evt]
  | .fn _, _, _, _, _, _, _, _ => pt_no fun env c => by simp only [evt]
  | .bin _ _ _, _, _, _, _, _, _, _ => pt_no fun env c => by simp only [evt]
  | .neg _, _, _, _, _, _, _, _ => pt_no fun env c => by simp only [evt]
  | .tup _, _, _, _, _, _, _, _ => pt_no fun env c => by simp only [evt]
  | .lst _, _, _, _, _, _, _, _ => pt_no fun env c => by simp only [evt]
  | .sl _ _ _, _, _, _, _, _, _, _ => pt_no fun env c => by simp only [evt]
  | .nop, _, _, _, _, _, _, _ => pt_no fun env c => by simp only [evt]
  | .b2 _ _ _, _, _, _, _, _, _, _ => pt_no fun env c => by simp only [evt]
  | .lc _ _ _ _ _, _, _, _, _, _, _, _ => pt_no fun env c => by simp only [evt]
  | .itr _, _, _, _, _, _, _, _ => pt_no fun env c => by simp only [evt]
  | .rng1 _, _, _, _, _, _, _, _ => pt_no fun env c => by simp only [evt]
  | .rng2 _ _, _, _, _, _, _, _, _ => pt_no fun env c => by simp only [evt]
  | .zip2 _ _, _, _, _, _, _, _, _ => pt_no fun env c => by simp only [evt]
  | .enum _, _, _, _, _, _, _, _ => pt_no fun env c => by simp only [evt]
  | .flt _ _, _, _, _, _, _, _, _ => pt_no fun env c => by simp only [evt]
theorem sAndT : ∀ (es : List E) (sc : Scope) (fs : Option Scope) (ps : List Expr) (pos : Pos), okEs k es sc fs ps = true → es ≠ [] → ∀ (X : Cx) (G : Gx), Sta k T cl n sc fs X G → L2.PW X (.BoolOp .And ps pos) (tEvT G (evtand T cl es))
  | [], _, _, _, _, _, hn, _, _, _ => absurd rfl hn
  | e :: r, sc, fs, ps, pos, h, _, X, G, S => by
    cases ps with
    | nil => simp [okEs] at h
    | cons p ps =>
      simp only [okEs, Bool.and_eq_true, Bool.not_eq_true'] at h
      cases r with
      | nil =>
        cases ps with
        | nil => exact pw_imp (st_and1 (sT e sc fs p h.1.1 X G S)) fun σ H Q ⟨env, c, R, q⟩ => ⟨env, c, R, by simp only [evtand] at q; exact q⟩
        | cons _ _ => simp [okEs] at h
      | cons e2 r2 =>
        cases ps with
        | nil => simp [okEs] at h
        | cons p2 ps2 => exact pw_imp (st_and (sT e sc fs p h.1.1 X G S) (sAndT (e2 :: r2) sc fs (p2 :: ps2) pos h.2 (by simp) X G S)) fun σ H Q ⟨env, c, R, q⟩ => ⟨env, c, R, by rw [evtand2] at q; exact q⟩
theorem sOrT : ∀ (es : List E) (sc : Scope) (fs : Option Scope) (ps : List Expr) (pos : Pos), okEs k es sc fs ps = true → es ≠ [] → ∀ (X : Cx) (G : Gx), Sta k T cl n sc fs X G → L2.PW X (.BoolOp .Or ps pos) (tEvT G (evtor T cl es))
  | [], _, _, _, _, _, hn, _, _, _ => absurd rfl hn
  | e :: r, sc, fs, ps, pos, h, _, X, G, S => by
    cases ps with
    | nil => simp [okEs] at h
    | cons p ps =>
      simp only [okEs, Bool.and_eq_true, Bool.not_eq_true'] at h
      cases r with
      | nil =>
        cases ps with
        | nil => exact pw_imp (st_or1 (sT e sc fs p h.1.1 X G S)) fun σ H Q ⟨env, c, R, q⟩ => ⟨env, c, R, by simp only [evtor] at q; exact q⟩
        | cons _ _ => simp [okEs] at h
      | cons e2 r2 =>
        cases ps with
        | nil => simp [okEs] at h
        | cons p2 ps2 => exact pw_imp (st_or (sT e sc fs p h.1.1 X G S) (sOrT (e2 :: r2) sc fs (p2 :: ps2) pos h.2 (by simp) X G S)) fun σ H Q ⟨env, c, R, q⟩ => ⟨env, c, R, by rw [evtor2] at q; exact q⟩
end
end
end PX

/-! # PX: statements, one by one -/
namespace PX
open PySem PySem.Spec PyProof.Rows
open L2 (V HO Hp upd SqT SqL Rd TE TT TA TS TI TG Cx PE PT PA PS PSs PI PG Inv upd_same upd_ne OpR CallR IxR RelV Vals Room Vis Gl Loc)

/-- what stands and is not written stays so -/
def Frm (G : Gx) (env : Env) (σ : Sl) (H : Hp) (env' : Env) (σ' : Sl) (H' : Hp) : Prop := ∀ b o, H b = some o → (∀ ps, o ≠ .tbl ps) → ¬ Av G env σ b → H' b = some o ∧ ¬ Av G env' σ' b
def PostS (G : Gx) (env : Env) (σ : Sl) (H : Hp) (D : L2.Ends) : RS → Prop
  | .ok .nx e c => ∀ σ' H', Rel G e c σ' H' → Frm G env σ H e σ' H' → D.nx σ' H'
  | .ok .bk e c => ∀ σ' H', Rel G e c σ' H' → Frm G env σ H e σ' H' → D.bk σ' H'
  | .ok .ct e c => ∀ σ' H', Rel G e c σ' H' → Frm G env σ H e σ' H' → D.ct σ' H'
  | .ok (.rt d) _ c => ∀ v H', Inh G c H' → Rp G.K G.fa G.ca G.O H' v d → Fr G.H0 v d → D.rt v H'
  | .ex x c => XP G x c
  | .no => False
def tS (G : Gx) (f : Env → C → RS) : TS := fun D σ H => ∃ env c, Rel G env c σ H ∧ PostS G env σ H D (f env c)
section
variable {G : Gx} {env env1 env2 : Env} {c c1 : C} {σ σ1 σ2 : Sl} {H H1 H2 : Hp} {Dn : L2.Ends}
theorem Frm.refl : Frm G env σ H env σ H := fun _ _ h _ n => ⟨h, n⟩
theorem Frm.trans (a : Frm G env σ H env1 σ1 H1) (b : Frm G env1 σ1 H1 env2 σ2 H2) : Frm G env σ H env2 σ2 H2 := fun x o h t n =>
  let ⟨h1, n1⟩ := a x o h t n
  b x o h1 t n1
theorem Frm.trans0 (a : Frm G env σ H env1 σ1 H1) (s : ∀ b, Av G env2 σ2 b → Av G env1 σ1 b) : Frm G env σ H env2 σ2 H1 := fun x o h t n => ⟨(a x o h t n).1, fun z => (a x o h t n).2 (s x z)⟩
theorem Frm.stp (R : Rel G env c σ H) (s : Stp G.ca H H1) : Frm G env σ H env σ H1 := fun b o h t n => ⟨s b o h t fun e => n (R.w b e.symm).1, n⟩
theorem PostS.back (F : Frm G env σ H env1 σ1 H1) {r : RS} (h : PostS G env σ H Dn r) : PostS G env1 σ1 H1 Dn r := by
  cases r with
  | ok f e c => cases f with
    | nx => exact fun σ' H' R' F' => h σ' H' R' (F.trans F')
    | bk => exact fun σ' H' R' F' => h σ' H' R' (F.trans F')
    | ct => exact fun σ' H' R' F' => h σ' H' R' (F.trans F')
    | rt d => exact h
  | ex x c => exact h
  | no => exact h
theorem rs_of {nb' : Bool} {Q' : V → Hp → Prop} {r : R D} {g : D → C → RS} (h : PostS G env σ H Dn (RS.of r g))
    (k : ∀ d c v H', Rel G env c σ H' → Stp G.ca H H' → Rb G.K G.fa G.ca (Av G env σ) H' v d → (nb' = true → Rp G.K G.fa G.ca (Av G env σ) H' v d) → Fr H v d → PostS G env σ H Dn (g d c) → Q' v H') : Post G nb' env σ H Q' r := by
  cases r with
  | ok d c => exact fun v H' R s rb rp f => k d c v H' R s rb rp f h
  | ex x c => exact h
  | no => exact h
theorem rs_ofs {Q' : Bool → Hp → Prop} {r : R Bool} {g : Bool → C → RS} (h : PostS G env σ H Dn (RS.ofs r g))
    (k : ∀ d c H', Rel G env c σ H' → Stp G.ca H H' → PostS G env σ H Dn (g d c) → Q' d H') : PostB G env σ H Q' r := by
  cases r with
  | ok d c => exact fun H' R s => k d c H' R s h
  | ex x c => exact h
  | no => exact h
theorem rs_ofl {Q' : List V → Hp → Prop} {r : R (List D)} {g : List D → C → RS} (h : PostS G env σ H Dn (RS.ofs r g))
    (k : ∀ ds c vs H', Rel G env c σ H' → Stp G.ca H H' → Rps G.K G.fa G.ca (Av G env σ) H' vs (ds.map norm) → PostS G env σ H Dn (g ds c) → Q' vs H') : PostL G env σ H Q' r := by
  cases r with
  | ok d c => exact fun v H' R s rp => k d c v H' R s rp h
  | ex x c => exact h
  | no => exact h
/-- a slot takes a value: the frame -/
theorem Frm.set (F : Frm G env σ H env σ H1) {i : Nat} {d : D} {v : V} (n : ∀ ds, d ≠ .own ds) : Frm G env σ H (env.set i (some d)) (σ.set i (some v)) H1 := fun b o h t q =>
  let ⟨h1, n1⟩ := F b o h t q
  ⟨h1, fun z => n1 (Av.set (fun ds z => n ds (Option.some.inj z)) b z)⟩
theorem Av.setO {i : Nat} {d : D} {a : Addr} : ∀ b, Av G (env.set i (some d)) (σ.set i (some (.ref a))) b → Av G env σ b ∨ b = a := fun b h => by
  rcases h with h | ⟨j, es, e1, e2⟩
  · exact .inl (.inl h)
  · rcases get_set e1 with ⟨hj, z⟩ | ⟨hj, e1⟩
    · subst hj
      rcases get_set e2 with ⟨_, z2⟩ | ⟨h2, _⟩
      · exact .inr (V.ref.inj (Option.some.inj z2)).symm
      · exact absurd rfl h2
    · refine .inl (.inr ⟨j, es, e1, ?_⟩)
      rwa [List.getElem?_set_ne (Ne.symm hj)] at e2
theorem Frm.setO (F : Frm G env σ H env σ H1) {i : Nat} {d : D} {a : Addr} (n : Nw H a) : Frm G env σ H (env.set i (some d)) (σ.set i (some (.ref a))) H1 := fun b o h t q =>
  let ⟨h1, n1⟩ := F b o h t q
  ⟨h1, fun z => (Av.setO b z).elim n1 (n.ne h t)⟩
/-- any value into a slot -/
theorem put_any (R : Rel G env c σ H) (s : Stp G.ca H H1) (R1 : Rel G env c1 σ H1) {i : Nat} {d : D} {v : V} (r : Rp G.K G.fa G.ca (Av G env σ) H1 v d) (f : Fr H v d) :
    Rel G (env.set i (some d)) c1 (σ.set i (some v)) H1 ∧ Frm G env σ H (env.set i (some d)) (σ.set i (some v)) H1 := by
  have F := Frm.stp R s
  by_cases ho : ∃ ds, d = .own ds
  · obtain ⟨ds, rfl⟩ := ho
    cases r with
    | own ha nA rs =>
      have hn := f ds _ rfl rfl
      refine ⟨?_, F.setO hn⟩
      by_cases hi : i < env.length
      · exact R1.setOwn hi ha (rs.anti fun _ z => .inl z) R s hn rs
      · rw [List.set_eq_of_length_le (by omega), List.set_eq_of_length_le (by rw [← R1.len]; omega)]
        exact R1
  · have hn : ∀ ds, d ≠ .own ds := fun ds z => ho ⟨ds, z⟩
    exact ⟨R1.set r hn, F.set hn⟩
/-- lists that are not written any more -/
theorem frz_one (R : Rel G env c σ H) {i : Nat} {ds : List D} (e : env[i]? = some (some (.own ds))) : Rel G (env.set i (some (.lst ds))) c σ H ∧ ∀ b, Av G (env.set i (some (.lst ds))) σ b → Av G env σ b := by
  obtain ⟨a, vs, h1, h2, h3, h4, h5⟩ := R.own i ds e
  have hA : ∀ b, Av G (env.set i (some (.lst ds))) σ b → Av G env σ b := fun b z => by
    rcases z with z | ⟨j, es, e1, e2⟩
    · exact .inl z
    · rcases get_set e1 with ⟨hj, q⟩ | ⟨hj, e1⟩
      · cases q
      · exact .inr ⟨j, es, e1, e2⟩
  refine ⟨⟨R.inh, by simpa using R.len, fun j d' e' n' => ?_, fun j es e' => ?_, fun j k ds' es b e1 e2 e3 e4 => ?_⟩, hA⟩
  · rcases get_set e' with ⟨hj, q⟩ | ⟨hj, e'⟩
    · subst hj
      cases q
      refine ⟨.ref a, h1, .lst h2 (fun z => ?_) (h5.anti hA)⟩
      rcases z with z | ⟨k, es, e1, e2⟩
      · exact h3 z
      · rcases get_set e1 with ⟨hk, q⟩ | ⟨hk, e1⟩
        · cases q
        · exact hk (R.inj k j es ds a e1 e e2 h1)
    · obtain ⟨v, q1, q2⟩ := R.val j d' e' n'
      exact ⟨v, q1, q2.anti hA⟩
  · rcases get_set e' with ⟨hj, q⟩ | ⟨hj, e'⟩
    · cases q
    · obtain ⟨b, ws, q1, q2, q3, q4, q5⟩ := R.own j es e'
      exact ⟨b, ws, q1, q2, q3, q4, q5.anti hA⟩
  · rcases get_set e1 with ⟨hj, q⟩ | ⟨hj, e1⟩
    · cases q
    · rcases get_set e2 with ⟨hk, q⟩ | ⟨hk, e2⟩
      · cases q
      · exact R.inj j k ds' es b e1 e2 e3 e4
theorem frz_ok : ∀ (l : List Nat) {env : Env}, Rel G env c σ H → Rel G (frz env l) c σ H ∧ ∀ b, Av G (frz env l) σ b → Av G env σ b
  | [], env, R => ⟨R, fun _ z => z⟩
  | i :: r, env, R => by
    rw [frz]
    split
    · rename_i ds e
      obtain ⟨R1, h1⟩ := frz_one R e
      obtain ⟨R2, h2⟩ := frz_ok r R1
      exact ⟨R2, fun b z => h1 b (h2 b z)⟩
    · exact frz_ok r R
/-- a list of one's own is written -/
theorem Rel.rewrite (R : Rel G env c σ H) {i : Nat} {a : Addr} {ds ds' : List D} {vs' : List V} (e : env[i]? = some (some (.own ds))) (h1 : σ[i]? = some (some (.ref a))) (r : Rps G.K G.fa G.ca (Av G env σ) H vs' ds') :
    Rel G (env.set i (some (.own ds'))) c σ (upd H a (.lst vs')) ∧ Frm G env σ H (env.set i (some (.own ds'))) σ (upd H a (.lst vs')) := by
  obtain ⟨a', vs, h1', h2, h3, h4, h5⟩ := R.own i ds e
  rw [h1] at h1'
  cases h1'
  have aA : Av G env σ a := .inr ⟨i, ds, e, h1⟩
  have nca : some a ≠ G.ca := R.nca h3
  have hA : ∀ b, Av G (env.set i (some (.own ds'))) σ b → Av G env σ b := fun b z => by
    rcases z with z | ⟨j, es, e1, e2⟩
    · exact .inl z
    · rcases get_set e1 with ⟨hj, q⟩ | ⟨hj, e1⟩
      · subst hj; exact .inr ⟨_, ds, e, e2⟩
      · exact .inr ⟨j, es, e1, e2⟩
  have s : StpW (fun b => b = a) H (upd H a (.lst vs')) := fun b o h _ n => by rw [upd_ne n]; exact h
  have hW : ∀ b, b = a → Av G env σ b ∧ ∃ ys, H b = some (.lst ys) := fun b z => by subst z; exact ⟨aA, _, h2⟩
  have I : Inh G c (upd H a (.lst vs')) := ⟨R.inh.cup.write nca, tab_write R.inh.tab h2, fun b o h t n => by
      rw [upd_ne (h4.ne h t)]; exact R.inh.stp b o h t n, R.inh.oc, fun b hb => by
      obtain ⟨ys, q⟩ := R.inh.ol b hb
      have nb : b ≠ a := fun z => h3 (by rw [← z]; exact hb)
      exact ⟨ys, by rw [upd_ne nb]; exact q⟩⟩
  refine ⟨⟨I, by simpa using R.len, fun j d e' n' => ?_, fun j es e' => ?_, fun j k ds2 es b e1 e2 e3 e4 => ?_⟩, fun b o h t n => ⟨s b o h t fun z => n (z ▸ aA), fun z => n (hA b z)⟩⟩
  · rcases get_set e' with ⟨hj, q⟩ | ⟨hj, e'⟩
    · cases q; exact absurd rfl (n' _)
    · obtain ⟨v, q1, q2⟩ := R.val j d e' n'
      exact ⟨v, q1, (q2.keepW s hW).anti hA⟩
  · rcases get_set e' with ⟨hj, q⟩ | ⟨hj, e'⟩
    · subst hj
      cases q
      exact ⟨a, vs', h1, upd_same, h3, h4, (r.keepW s hW).anti hA⟩
    · obtain ⟨b, ws, q1, q2, q3, q4, q5⟩ := R.own j es e'
      have nb : b ≠ a := fun z => hj (R.inj j i es ds a e' e (z ▸ q1) h1)
      exact ⟨b, ws, q1, by rw [upd_ne nb]; exact q2, q3, q4, (q5.keepW s hW).anti hA⟩
  · have g : ∀ {k : Nat} {es : List D}, (env.set i (some (D.own ds')))[k]? = some (some (D.own es)) → ∃ es', env[k]? = some (some (D.own es')) := fun {k es} z => by
      rcases get_set z with ⟨hk, q⟩ | ⟨hk, q⟩
      · subst hk; exact ⟨ds, e⟩
      · exact ⟨_, q⟩
    obtain ⟨u1, z1⟩ := g e1
    obtain ⟨u2, z2⟩ := g e2
    exact R.inj j k u1 u2 b z1 z2 e3 e4
/-- the shared list is written -/
theorem Rel.cupPut (R : Rel G env c σ H) {a : Addr} (hca : G.ca = some a) (p : Int × Int) :
    Rel G env (some p) σ (upd H a (.lst [.int p.1, .int p.2])) ∧ Frm G env σ H env σ (upd H a (.lst [.int p.1, .int p.2])) := by
  obtain ⟨ys, hy⟩ := R.inh.cup.lst a hca
  have s : Stp G.ca H (upd H a (.lst [.int p.1, .int p.2])) := fun b o h _ n => by
    rw [upd_ne fun z => n (by rw [z, hca])]; exact h
  have I : Inh G (some p) (upd H a (.lst [.int p.1, .int p.2])) := ⟨by
    rw [hca]; exact upd_same, tab_write R.inh.tab hy, R.inh.stp.trans s, R.inh.oc, fun b hb => by
    by_cases z : b = a
    · subst z; exact ⟨_, upd_same⟩
    · obtain ⟨ys, q⟩ := R.inh.ol b hb
      exact ⟨ys, by rw [upd_ne z]; exact q⟩⟩
  exact ⟨R.stp s I, Frm.stp R s⟩
end
section
variable {X : Cx} {G : Gx} {T : Tab} {cl : Cl}
theorem ss_fz {st : Stmt} {f : Env → C → RS} {l : List Nat} (h : PS X st (tS G f)) : PS X st (tS G fun env c => f (frz env l) c) := ps_imp h fun D σ H ⟨env, c, R, q⟩ => by
  obtain ⟨R1, h1⟩ := frz_ok l R
  exact ⟨_, c, R1, q.back fun b o h t n => ⟨h, fun z => n (h1 b z)⟩⟩
theorem ps_eq {e : Stmt} {f g : Env → C → RS} (h : PS X e (tS G f)) (hg : ∀ env c, g env c = f env c) : PS X e (tS G g) := ps_imp h fun D σ H ⟨env, c, R, q⟩ => ⟨env, c, R, by rw [← hg]; exact q⟩
theorem sss_nil : PSs X [] (tS G fun env c => .ok .nx env c) := pss_imp L2.pss_nil fun D σ H ⟨env, c, R, q⟩ => q σ H R Frm.refl
theorem sss_cons {st : Stmt} {rest : List Stmt} {f g : Env → C → RS} (h1 : PS X st (tS G f)) (h2 : PSs X rest (tS G g)) : PSs X (st :: rest) (tS G fun env c => (f env c).then g) :=
  pss_imp (L2.pss_cons h1 h2) fun D σ H ⟨env, c, R, q⟩ => ⟨env, c, R, by
    dsimp only at q
    generalize f env c = r at q ⊢
    cases r with
    | no => exact q
    | ex x c => exact q
    | ok fl e c => cases fl with
      | nx => exact fun σ' H' R' F => ⟨e, c, R', PostS.back F q⟩
      | bk => exact q
      | ct => exact q
      | rt d => exact q⟩
theorem ss_pass {pos : Pos} : PS X (.Pass pos) (tS G fun env c => .ok .nx env c) := ps_imp L2.ps_pass fun D σ H ⟨env, c, R, q⟩ => q σ H R Frm.refl
theorem ss_doc {x : Str} {j : Nat} {p pos : Pos} : PS X (.Expr (.Constant (.str x) j p) pos) (tS G fun env c => .ok .nx env c) := ps_imp L2.ps_doc fun D σ H ⟨env, c, R, q⟩ => q σ H R Frm.refl
theorem ss_brk {pos : Pos} : PS X (.Break pos) (tS G fun env c => .ok .bk env c) := ps_imp L2.ps_break fun D σ H ⟨env, c, R, q⟩ => q σ H R Frm.refl
theorem ss_cont {pos : Pos} : PS X (.Continue pos) (tS G fun env c => .ok .ct env c) := ps_imp L2.ps_continue fun D σ H ⟨env, c, R, q⟩ => q σ H R Frm.refl
theorem ss_ret0 {pos : Pos} : PS X (.Return none pos) (tS G fun env c => .ok (.rt .non) env c) := ps_imp L2.ps_retN fun D σ H ⟨env, c, R, q⟩ => q .non H R.inh .non fun _ _ z _ => by cases z
theorem ss_ret {e : Expr} {f : Env → C → R D} {pos : Pos} (h : PE X e (tEv G true f)) : PS X (.Return (some e) pos) (tS G fun env c => RS.of (f env c) fun d c => .ok (.rt d) env c) :=
  ps_imp (L2.ps_ret h) fun D σ H ⟨env, c, R, q⟩ => ⟨env, c, R, rs_of q fun d c1 v H1 R1 s1 rb rp fr q1 => by
    have q1 : PostS G env σ H D (.ok (.rt d) env c1) := q1
    have r := rp rfl
    refine q1 v H1 R1.inh (r.anti fun a z => .inl z) fun ds a e1 e2 => ?_
    subst e1 e2
    refine (fr ds a rfl rfl).back R.inh.stp fun e => ?_
    cases r with
    | own _ nA _ => exact nA (R1.w a e.symm).1⟩
theorem ss_retv {i : Nat} {x : Str} {p pos : Pos} (hN : X.N[i]? = some x) (hv : Vis X.env.scope x) (hd : (x == ("__debug__" : Str)) = false) (hcd : (x == ("__classdict__" : Str)) = false) :
    PS X (.Return (some (.Name x p)) pos) (tS G fun env c => match env[i]? with | some (some d) => .ok (.rt d) env c | _ => .no) :=
  ps_imp (L2.ps_ret (L2.pe_var hN hv hd hcd)) fun D σ H ⟨env, c, R, q⟩ => by
    dsimp only at q
    split at q
    · rename_i d e
      by_cases hn : ∃ ds, d = .own ds
      · obtain ⟨ds, rfl⟩ := hn
        obtain ⟨a, vs, h1, h2, h3, h4, h5⟩ := R.own i ds e
        refine ⟨.ref a, h1, q _ _ R.inh (.own h2 h3 (h5.anti fun b z => ?_)) fun es b z1 z2 => by cases z2; exact h4⟩
        rcases z with z | z
        · exact .inl z
        · exact .inr ⟨i, ds, e, by rw [z]; exact h1⟩
      · have hn' : ∀ ds, d ≠ .own ds := fun ds z => hn ⟨ds, z⟩
        obtain ⟨v, h1, h2⟩ := R.val i _ e hn'
        exact ⟨v, h1, q _ _ R.inh (h2.anti fun a z => .inl z) fun es b z => absurd z (hn' es)⟩
    · exact q.elim
theorem ss_if {t : Expr} {a b : List Stmt} {ft : Env → C → R Bool} {fa fb : Env → C → RS} {pos : Pos} (ht : PT X t (tEvT G ft)) (ha : PSs X a (tS G fa)) (hb : PSs X b (tS G fb)) :
    PS X (.If t a b pos) (tS G fun env c => RS.ofs (ft env c) fun b' c => if b' then fa env c else fb env c) :=
  ps_imp (L2.ps_if ht ha hb) fun D σ H ⟨env, c, R, q⟩ => ⟨env, c, R, rs_ofs q fun d c1 H1 R1 s1 q1 => by
    have q1 := PostS.back (Frm.stp R s1) q1
    cases d with
    | true => rw [if_pos rfl]; exact ⟨env, c1, R1, q1⟩
    | false => rw [if_neg Bool.false_ne_true]; exact ⟨env, c1, R1, q1⟩⟩
theorem ss_ex {e : Expr} {f : Env → C → R D} {nb : Bool} {pos : Pos} (h : PE X e (tEv G nb f)) (hs : swapsWith e none pos.line X.env = pure false) : PS X (.Expr e pos) (tS G fun env c => RS.of (f env c) fun _ c => .ok .nx env c) :=
  ps_imp (L2.ps_expr h hs) fun D σ H ⟨env, c, R, q⟩ => ⟨env, c, R, rs_of q fun d c1 v H1 R1 s1 rb rp fr q1 => q1 σ H1 R1 (Frm.stp R s1)⟩
theorem ss_set {i : Nat} {x : Str} {e : Expr} {f : Env → C → R D} {pos pos' : Pos} (hN : X.N.Nodup) (hi : X.N[i]? = some x) (hx : Loc X.env.scope x) (hf : X.fn x = true ∨ X.env.scope.names.lookup x = some .local) (he : PE X e (tEv G true f)) (hs : swapsWith e (some (.Name x pos')) pos.line X.env = pure false) :
    PS X (.Assign [.Name x pos'] e pos) (tS G fun env c => RS.of (f env c) fun d c => .ok .nx (env.set i (some d)) c) :=
  ps_imp (L2.ps_set hN hi hx he hs hf) fun D σ H ⟨env, c, R, q⟩ => ⟨env, c, R, rs_of q fun d c1 v H1 R1 s1 rb rp fr q1 => by
    obtain ⟨h1, h2⟩ := put_any R s1 R1 (i := i) (rp rfl) fr
    exact q1 _ _ h1 h2⟩
/-- a list display by a comprehension, stored at once -/
theorem ss_setT {t : TE} {i : Nat} {f : Env → C → R D} {st : Stmt} (h : PS X st (L2.tAsg t (L2.gName i))) (hr : ∀ σ H Q, tEv G true f σ H Q → t σ H Q) : PS X st (tS G fun env c => RS.of (f env c) fun d c => .ok .nx (env.set i (some d)) c) :=
  ps_imp h fun D σ H ⟨env, c, R, q⟩ => hr σ H _ ⟨env, c, R, rs_of q fun d c1 v H1 R1 s1 rb rp fr q1 => by
    obtain ⟨h1, h2⟩ := put_any R s1 R1 (i := i) (rp rfl) fr
    exact q1 _ _ h1 h2⟩
theorem ss_tas {tg e : Expr} {t : Tg} {f : Env → C → R D} {pos : Pos} (he : PE X e (tEv G true f)) (hg : PG X tg (tTg G (slots t) (tgt t))) (hs : swapsWithSole [tg] e pos.line X.env = pure false) (hw : swappedStores [tg] e X.env = pure none)
    (h1 : (assignEach [tg] X.env).map (·.2) = [assign tg X.env]) : PS X (.Assign [tg] e pos) (tS G fun env c => RS.of (f env c) fun d c => match tgt t d env with | some e2 => .ok .nx e2 c | none => .no) :=
  ps_imp (L2.ps_asg he hg hs hw h1) fun D σ H ⟨env, c, R, q⟩ => ⟨env, c, R, rs_of q fun d c1 v H1 R1 s1 rb rp fr q1 => by
    split at q1
    · rename_i e2 h2
      exact ⟨env, c1, d, R1, rp rfl, e2, h2, fun σ' R' o a' => q1 _ _ R' fun b o' h t n => let ⟨h3, n3⟩ := Frm.stp R s1 b o' h t n; ⟨h3, fun z => n3 (a' b z)⟩⟩
    · exact q1.elim⟩
/-- x.append(e) -/
theorem ss_app {i : Nat} {x : Str} {e : Expr} {f : Env → C → R D} {p ap cp pos : Pos} (hK : X.K = G.K) (hN : X.N[i]? = some x) (hv : Vis X.env.scope x) (hd : (x == ("__debug__" : Str)) = false) (hcd : (x == ("__classdict__" : Str)) = false) (he : PE X e (tEv G true f)) (hs : isStar e = false) (hl : (ap.endLine == cp.line) = true) :
    PS X (.Expr (.Call (.Attribute (.Name x p) "append" ap) [e] [] cp) pos) (tS G fun env c => match env[i]? with
      | some (some (.own ds)) => RS.of (f env c) fun y c => if ds.length < szl then .ok .nx (env.set i (some (.own (ds ++ [norm y])))) c else .no
      | _ => .no) :=
  ps_imp (L2.ps_expr (L2.pe_bm PySem.F.plainAttrs_list PySem.F.slot_list_append PySem.F.type_list_append L2.mt_append (L2.pe_var hN hv hd hcd) (L2.pa_cons he L2.pa_nil (star_cons hs)) (by rfl) (by rw [star_cons hs]; rfl) hl (star_cons hs) (by rfl)) (by rfl)) fun D σ H ⟨env, c, R, q⟩ => by
    dsimp only at q
    split at q
    · rename_i ds e
      obtain ⟨a, vs, h1, h2, h3, h4, h5⟩ := R.own i ds e
      refine ⟨.ref a, h1, .inl ⟨rfl, vs, .of h2⟩, env, c, R, rs_of q fun d c1 v H1 R1 s1 rb rp fr q1 => ?_⟩
      obtain ⟨a', vs', h1', h2', h3', h4', h5'⟩ := R1.own i ds e
      rw [h1] at h1'
      cases h1'
      split at q1
      · rename_i hz
        refine ⟨a, vs', v, rfl, rfl, h2', by rw [h5'.length, ← szl_eq]; exact hz, ?_⟩
        obtain ⟨R2, F2⟩ := R1.rewrite e h1 (h5'.app (.cons (rp rfl).norm .nil))
        exact q1 _ _ R2 ((Frm.stp R s1).trans F2)
      · exact q1.elim
    · exact q.elim
/-- x[k] = e -/
theorem ss_put {i : Nat} {x : Str} {e ke : Expr} {f g : Env → C → R D} {nb : Bool} {p sp pos : Pos} (hN : X.N[i]? = some x) (hv : Vis X.env.scope x) (hd : (x == ("__debug__" : Str)) = false) (hcd : (x == ("__classdict__" : Str)) = false) (he : PE X e (tEv G true f)) (hk : PE X ke (tEv G nb g))
    (hs : swapsWithSole [.Subscript (.Name x p) ke sp] e pos.line X.env = pure false) (hw : swappedStores [.Subscript (.Name x p) ke sp] e X.env = pure none)
    (ha : ∀ v, assign (.Subscript (.Name x p) ke sp) X.env v = (do
      let ov ← holding [v] (eval (.Name x p) X.env)
      let iv ← holding [v, ov] (eval ke X.env)
      standAt sp
      holding [v, ov, iv] (setItem ov iv v)
      release [v, ov, iv] [])) :
    PS X (.Assign [.Subscript (.Name x p) ke sp] e pos) (tS G fun env c => RS.of (f env c) fun y c => if hasB env i then RS.of (g env c) fun k c => match k with
      | .int k => match putv env c i k y with
        | some (e2, c2) => .ok .nx e2 c2
        | none => .no
      | _ => .no
      else .no) :=
  ps_imp (L2.ps_asg he (L2.pg_sub (L2.pe_var hN hv hd hcd) hk L2.set_list ha) hs hw (by rfl)) fun D σ H ⟨env, c, R, q⟩ => ⟨env, c, R, rs_of q fun d c1 v H1 R1 s1 rb rp fr q1 => by
    split at q1
    case isFalse => exact q1.elim
    rename_i hb
    have hσ : ∃ a, σ[i]? = some (some (.ref a)) := by
      unfold hasB at hb
      split at hb
      · rename_i e
        obtain ⟨w, h1, h2⟩ := R1.val i _ e fun _ z => by cases z
        cases h2 with
        | cup h => exact ⟨_, h1⟩
      · rename_i ds e
        obtain ⟨a, vs, h1, _⟩ := R1.own i ds e
        exact ⟨a, h1⟩
      · cases hb
    obtain ⟨a, hσ⟩ := hσ
    refine ⟨.ref a, hσ, env, c1, R1, rs_of (PostS.back (Frm.stp R s1) q1) fun k c2 kv H2 R2 s2 rbk _ _ q2 => ?_⟩
    have r2 := (rp rfl).keep s2 R1.w
    by_cases hk : ∃ kk, k = .int kk
    case neg => exact absurd q2 (by cases k <;> first | exact absurd ⟨_, rfl⟩ hk | exact fun z => z)
    obtain ⟨kk, rfl⟩ := hk
    have hkv := rb_int rbk
    subst hkv
    dsimp only at q2
    split at q2
    case h_2 => exact q2.elim
    rename_i e2 c2' hp
    unfold putv at hp
    split at hp
    · rename_i e
      obtain ⟨w, h1, h2⟩ := R2.val i _ e fun _ z => by cases z
      rw [hσ] at h1
      cases h1
      cases h2 with
      | cup hca =>
        split at hp
        · rename_i pp qq z
          have hcup : H2 a = some (.lst [.int pp, .int qq]) := by
            have := R2.inh.cup
            rw [hca] at this
            exact this
          have hz : v = .int z := by
            cases r2 <;> first | (cases ‹norm _ = _›; done) | rfl | skip
          subst hz
          split at hp
          · rename_i k0
            cases hp
            refine ⟨a, _, kk, 0, rfl, rfl, hcup, by rw [k0]; rfl, ?_⟩
            obtain ⟨R3, F3⟩ := R2.cupPut hca (z, qq)
            exact q2 _ _ R3 ((Frm.stp R1 s2).trans F3)
          · split at hp
            · rename_i k1
              cases hp
              refine ⟨a, _, kk, 1, rfl, rfl, hcup, by rw [k1]; rfl, ?_⟩
              obtain ⟨R3, F3⟩ := R2.cupPut hca (pp, z)
              exact q2 _ _ R3 ((Frm.stp R1 s2).trans F3)
            · cases hp
        · cases hp
    · rename_i ds e
      split at hp
      · rename_i j hj
        cases hp
        obtain ⟨a', vs, h1, h2, h3, h4, h5⟩ := R2.own i ds e
        rw [hσ] at h1
        cases h1
        refine ⟨a, vs, kk, j, rfl, rfl, h2, by rw [h5.length]; exact hj, ?_⟩
        obtain ⟨R3, F3⟩ := R2.rewrite e hσ (Rps.set r2.norm j h5)
        exact q2 _ _ R3 ((Frm.stp R1 s2).trans F3)
      · cases hp
    · cases hp⟩
end
end PX

/-! # PX: loops, pairs, raising -/
namespace PX
open PySem PySem.Spec PyProof.Rows
open L2 (V HO Hp upd SqT SqL Rd TE TT TA TS TI TG Cx PE PT PA PS PSs PI PG Inv upd_same upd_ne OpR CallR IxR RelV Vals Room Vis Gl Loc)
section
variable {X : Cx} {G : Gx} {T : Tab} {cl : Cl}
/-- behind a turn -/
theorem turn_post {env : Env} {σ : Sl} {H : Hp} {D : L2.Ends} {r : RS} {g : Env → C → RS} {N : Sl → Hp → Prop} (h : PostS G env σ H D (r.turn g))
    (k : ∀ e c σ' H', Rel G e c σ' H' → Frm G env σ H e σ' H' → PostS G env σ H D (g e c) → N σ' H') : PostS G env σ H { D with nx := N, ct := N, bk := D.nx } r := by
  cases r with
  | no => exact h
  | ex x c => exact h
  | ok fl e c => cases fl with
    | nx => exact fun σ' H' R' F => k e c σ' H' R' F h
    | ct => exact fun σ' H' R' F => k e c σ' H' R' F h
    | bk => exact h
    | rt d => exact h
theorem ss_for {tg it : Expr} {body : List Stmt} {t : Tg} {fi : Env → C → R (List D)} {fb : Env → C → RS} {pos : Pos} (hp : PassesOwn (model X.prog X.w) X.A X.env X.xe) (hc : X.calm = true) (hi : PI X tg it (tEvi G true fi)) (hg : PG X tg (tTg G (slots t) (tgt t))) (hb : PSs X body (tS G fb))
    (hs : ∀ x, foldedSetIterable it X.env x = pure x) : PS X (.For tg it body [] pos) (tS G fun env c => RS.ofs (fi env c) fun xs c => forGo (fun x env c => match tgt t x env with
      | some e2 => fb e2 c
      | none => .no) xs env c) :=
  ps_imp (L2.ps_for hp hc hi hg hb hs) fun D σ H ⟨env, c, R, q⟩ => ⟨env, c, R, by
    dsimp only at q
    generalize fi env c = r at q ⊢
    cases r with
    | no => exact q
    | ex x c => exact q
    | ok xs c1 =>
      intro J H1 R1 s1 wk
      generalize hB : (fun (x : PX.D) (env : Env) (c : C) => match tgt t x env with
        | some e2 => fb e2 c
        | none => RS.no) = B at q
      have hBx : ∀ (x : PX.D) (e : Env) (c : C), B x e c = match tgt t x e with
        | some e2 => fb e2 c
        | none => RS.no := fun x e c => by rw [← hB]
      clear hB
      have q : PostS G env σ H D (forGo B xs env c1) := q
      have q := PostS.back (Frm.stp R s1) q
      refine ⟨fun i m σ' H' => m = xs.length - i ∧ i ≤ xs.length ∧ ∃ e' c', Rel G e' c' σ' H' ∧ Frm G env σ H1 e' σ' H' ∧ PostS G e' σ' H' D (forGo B (xs.drop i) e' c'),
        ⟨xs.length, rfl, Nat.zero_le _, env, c1, R1, Frm.refl, q⟩, ?_⟩
      rintro i m σ' H' ⟨rfl, hi, e', c', R', F', q'⟩
      have w := wk H' (Av G e' σ') (fun b o e t n => (F' b o e t n).1) (fun b o e t n => (F' b o e t n).2) (Av.lst R') i
      by_cases hlt : i < xs.length
      · have ex : xs[i]? = some xs[i] := List.getElem?_eq_getElem hlt
        generalize xs[i] = x at ex
        have e0 : xs.drop i = x :: xs.drop (i + 1) := by
          rw [List.drop_eq_getElem_cons hlt]
          congr 1
          rw [List.getElem?_eq_getElem hlt] at ex
          exact Option.some.inj ex
        obtain ⟨go, yl⟩ := w.1 x ex
        refine .inr ⟨go, fun σ3 H3 => i + 1 ≤ xs.length ∧ ∃ e' c', Rel G e' c' σ3 H3 ∧ Frm G env σ H1 e' σ3 H3 ∧ PostS G e' σ3 H3 D (forGo B (xs.drop (i + 1)) e' c'),
          fun σ3 H3 hx => ⟨xs.length - (i + 1), by omega, rfl, hx⟩, fun xv H2 hy => ?_⟩
        obtain ⟨hn, rx⟩ := yl xv H2 hy
        have s2 : Stp G.ca H' H2 := by
          rcases hn with e | ⟨p, o, hp', e⟩
          · rw [e]; exact Stp.refl _ _
          · rw [e]; exact Stp.new hp'
        have R2 : Rel G e' c' σ' H2 := by
          rcases hn with e | ⟨p, o, hp', e⟩
          · rw [e]; exact R'
          · rw [e]; exact R'.new hp'
        rw [e0, forGo, hBx] at q'
        cases ht : tgt t x e' with
        | none => rw [ht] at q'; exact q'.elim
        | some e2 =>
          rw [ht] at q'
          refine ⟨e', c', x, R2, rx, e2, ht, fun σ3 R3 o3 a3 => ⟨e2, c', R3, ?_⟩⟩
          have F3 : Frm G e' σ' H' e2 σ3 H2 := fun b o h t n => let ⟨h1, n1⟩ := Frm.stp R' s2 b o h t n; ⟨h1, fun z => n1 (a3 b z)⟩
          have q3 : PostS G e2 σ3 H2 D ((fb e2 c').turn (forGo B (xs.drop (i + 1)))) := PostS.back F3 q'
          exact turn_post q3 fun e4 c4 σ4 H4 R4 F4 q4 => ⟨hlt, e4, c4, R4, (F'.trans F3).trans F4, q4.back F4⟩
      · have hi' : xs.length ≤ i := by omega
        refine .inl ⟨w.2 hi', ?_⟩
        rw [List.drop_eq_nil_of_le hi'] at q'
        exact q' _ _ R' Frm.refl⟩
theorem ss_while {t : Expr} {body : List Stmt} {ft : Env → C → R Bool} {fb : Env → C → RS} {pos : Pos} {n : Nat} (hp : PassesOwn (model X.prog X.w) X.A X.env X.xe) (ht : PT X t (tEvT G ft)) (hb : PSs X body (tS G fb)) :
    PS X (.While t body [] pos) (tS G fun env c => whileGo ft fb n env c) :=
  ps_imp (L2.ps_while hp ht hb) fun D σ H ⟨env, c, R, q⟩ => by
    refine ⟨fun m σ' H' => ∃ e' c', Rel G e' c' σ' H' ∧ PostS G e' σ' H' D (whileGo ft fb m e' c'), ⟨n, env, c, R, q⟩, ?_⟩
    rintro m σ' H' ⟨e', c', R', q'⟩
    cases m with
    | zero => exact q'.elim
    | succ m =>
      rw [whileGo] at q'
      refine ⟨e', c', R', rs_ofs q' fun b c1 H1 R1 s1 q1 => ?_⟩
      have q1 := PostS.back (Frm.stp R' s1) q1
      cases b with
      | false => rw [if_neg Bool.false_ne_true]; exact q1 _ _ R1 Frm.refl
      | true =>
        rw [if_pos rfl] at q1 ⊢
        exact ⟨fun σ3 H3 => ∃ e' c', Rel G e' c' σ3 H3 ∧ PostS G e' σ3 H3 D (whileGo ft fb m e' c'), fun σ3 H3 h => ⟨m, Nat.lt_succ_self m, h⟩, e', c1, R1,
          turn_post q1 fun e4 c4 σ4 H4 R4 F4 q4 => ⟨e4, c4, R4, q4.back F4⟩⟩
theorem ss_par2 {st : Stmt} {i j : Nat} {ta : TA} {f : Env → C → R (List D)} (h : PS X st (L2.tPar i j ta)) (ha : ∀ σ H Q, tEvs G f σ H Q → ta σ H Q) : PS X st (tS G fun env c => RS.ofs (f env c) fun ds c => match setAll [i, j] ds env with
      | some e2 => .ok .nx e2 c
      | none => .no) :=
  ps_imp h fun D σ H ⟨env, c, R, q⟩ => ha σ H _ ⟨env, c, R, rs_ofl q fun ds c1 vs H1 R1 s1 rp q1 => by
    cases ds with
    | nil => exact q1.elim
    | cons d1 ds => cases ds with
      | nil => exact q1.elim
      | cons d2 ds => cases ds with
        | cons d3 ds => exact q1.elim
        | nil =>
          cases rp with
          | cons r1 rp => cases rp with
            | cons r2 rp => cases rp with
              | nil =>
                refine ⟨_, _, rfl, ?_⟩
                have n1 := norm_nown d1
                have n2 := norm_nown d2
                have Ra := R1.set (i := i) r1 n1
                have Rc := Ra.set (i := j) (r2.anti (Av.set fun ds z => n1 ds (Option.some.inj z))) n2
                exact q1 _ _ Rc fun b o h t n => let ⟨h1, m1⟩ := Frm.stp R s1 b o h t n; ⟨h1, fun z => m1 (Av.set (fun ds z => n1 ds (Option.some.inj z)) b (Av.set (fun ds z => n2 ds (Option.some.inj z)) b z))⟩⟩
theorem ss_par3 {st : Stmt} {i j l : Nat} {ta : TA} {f : Env → C → R (List D)} (h : PS X st (L2.tPar3 i j l ta)) (ha : ∀ σ H Q, tEvs G f σ H Q → ta σ H Q) : PS X st (tS G fun env c => RS.ofs (f env c) fun ds c => match setAll [i, j, l] ds env with
      | some e2 => .ok .nx e2 c
      | none => .no) :=
  ps_imp h fun D σ H ⟨env, c, R, q⟩ => ha σ H _ ⟨env, c, R, rs_ofl q fun ds c1 vs H1 R1 s1 rp q1 => by
    cases ds with
    | nil => exact q1.elim
    | cons d1 ds => cases ds with
      | nil => exact q1.elim
      | cons d2 ds => cases ds with
        | nil => exact q1.elim
        | cons d3 ds => cases ds with
          | cons d4 ds => exact q1.elim
          | nil =>
            cases rp with
            | cons r1 rp => cases rp with
              | cons r2 rp => cases rp with
                | cons r3 rp => cases rp with
                  | nil =>
                    refine ⟨_, _, _, rfl, ?_⟩
                    have n1 := norm_nown d1
                    have n2 := norm_nown d2
                    have n3 := norm_nown d3
                    have Ra := R1.set (i := i) r1 n1
                    have Rc := Ra.set (i := j) (r2.anti (Av.set fun ds z => n1 ds (Option.some.inj z))) n2
                    have Rd := Rc.set (i := l) (r3.anti fun b z => Av.set (fun ds z => n1 ds (Option.some.inj z)) b (Av.set (fun ds z => n2 ds (Option.some.inj z)) b z)) n3
                    exact q1 _ _ Rd fun b o h t n => let ⟨h1, m1⟩ := Frm.stp R s1 b o h t n; ⟨h1, fun z => m1 (Av.set (fun ds z => n1 ds (Option.some.inj z)) b (Av.set (fun ds z => n2 ds (Option.some.inj z)) b (Av.set (fun ds z => n3 ds (Option.some.inj z)) b z)))⟩⟩
mutual
theorem Rp.free {K : PySem.W.Frag} {fa : Nat → Option Addr} {ca ca' : Option Addr} {A A' : Addr → Prop} {H : Hp} : ∀ {v : V} {d : D}, lfree d = true → Rp K fa ca A H v d → Rp K fa ca' A' H v d
  | _, _, _, .non => .non
  | _, _, _, .bl b => .bl b
  | _, _, _, .int i => .int i
  | _, _, _, .str x => .str x
  | _, _, h, .tup q r => .tup q (Rps.free (by simpa [lfree] using h) r)
  | _, _, h, .lst _ _ _ => by simp [lfree] at h
  | _, _, h, .own _ _ _ => by simp [lfree] at h
  | _, _, h, .scr _ => by simp [lfree] at h
  | _, _, h, .cup _ => by simp [lfree] at h
  | _, _, _, .fn q => .fn q
theorem Rps.free {K : PySem.W.Frag} {fa : Nat → Option Addr} {ca ca' : Option Addr} {A A' : Addr → Prop} {H : Hp} : ∀ {vs : List V} {ds : List D}, lfrees ds = true → Rps K fa ca A H vs ds → Rps K fa ca' A' H vs ds
  | _, _, _, .nil => .nil
  | _, _, h, .cons r t => by
    rw [lfrees, Bool.and_eq_true] at h
    exact .cons (Rp.free h.1 r) (Rps.free h.2 t)
end
theorem lfree_norm {d : D} (h : lfree d = true) : norm d = d := by cases d <;> first | rfl | (simp [lfree] at h)
theorem rs_ofl1 {env : Env} {σ : Sl} {H H1 : Hp} {D : L2.Ends} {Q' : List V → Hp → Prop} {r : R (List PX.D)} {g : List PX.D → C → RS} (h : PostS G env σ H D (RS.ofs r g))
    (k : ∀ ds c vs H', Rel G env c σ H' → Stp G.ca H1 H' → Rps G.K G.fa G.ca (Av G env σ) H' vs (ds.map norm) → PostS G env σ H D (g ds c) → Q' vs H') : PostL G env σ H1 Q' r := by
  cases r with
  | ok d c => exact fun v H' R s rp => k d c v H' R s rp h
  | ex x c => exact h
  | no => exact h
/-- a pair whose first is a list of one's own -/
theorem ss_parO2 {st : Stmt} {i j : Nat} {f1 : Env → C → R D} {f : Env → C → R (List D)} (h : PS X st (L2.tPar i j (L2.tCons (tEv G true f1) (tEvs G f)))) : PS X st (tS G fun env c => RS.of (f1 env c) fun d c => RS.ofs (f env c) fun ds c => if ds.all lfree then match setAll [j] ds (env.set i (some d)) with
      | some e2 => .ok .nx e2 c
      | none => .no
    else .no) :=
  ps_imp h fun D σ H ⟨env, c, R, q⟩ => ⟨env, c, R, rs_of q fun d c1 v H1 R1 s1 rb rp fr q1 => ⟨env, c1, R1, rs_ofl1 q1 fun ds c2 vs H2 R2 s2 r2 q2 => by
    split at q2
    case isFalse => exact q2.elim
    rename_i hfree
    cases ds with
    | nil => exact q2.elim
    | cons d2 ds => cases ds with
      | cons _ _ => exact q2.elim
      | nil =>
        cases r2 with
        | cons r2 r3 => cases r3 with
          | nil =>
            have hd2 : lfree d2 = true := by simpa using hfree
            obtain ⟨Ra, Fa⟩ := put_any R (s1.trans s2) R2 (i := i) ((rp rfl).keep s2 R1.w) fr
            refine ⟨_, _, rfl, ?_⟩
            have q2 : PostS G env σ H D (.ok .nx ((env.set i (some d)).set j (some (norm d2))) c2) := q2
            exact q2 _ _ (Ra.set (i := j) (r2.free (by rw [lfree_norm hd2]; exact hd2)) (norm_nown d2)) (Fa.trans0 (Av.set fun ds z => norm_nown d2 ds (Option.some.inj z)))⟩⟩
theorem ss_parO3 {st : Stmt} {i j l : Nat} {f1 : Env → C → R D} {f : Env → C → R (List D)} (h : PS X st (L2.tPar3 i j l (L2.tCons (tEv G true f1) (tEvs G f)))) : PS X st (tS G fun env c => RS.of (f1 env c) fun d c => RS.ofs (f env c) fun ds c => if ds.all lfree then match setAll [j, l] ds (env.set i (some d)) with
      | some e2 => .ok .nx e2 c
      | none => .no
    else .no) :=
  ps_imp h fun D σ H ⟨env, c, R, q⟩ => ⟨env, c, R, rs_of q fun d c1 v H1 R1 s1 rb rp fr q1 => ⟨env, c1, R1, rs_ofl1 q1 fun ds c2 vs H2 R2 s2 r2 q2 => by
    split at q2
    case isFalse => exact q2.elim
    rename_i hfree
    cases ds with
    | nil => exact q2.elim
    | cons d2 ds => cases ds with
      | nil => exact q2.elim
      | cons d3 ds => cases ds with
        | cons _ _ => exact q2.elim
        | nil =>
          cases r2 with
          | cons r2 r3 => cases r3 with
            | cons r3 r4 => cases r4 with
              | nil =>
                simp only [List.all_cons, List.all_nil, Bool.and_true, Bool.and_eq_true] at hfree
                obtain ⟨hd2, hd3⟩ := hfree
                obtain ⟨Ra, Fa⟩ := put_any R (s1.trans s2) R2 (i := i) ((rp rfl).keep s2 R1.w) fr
                refine ⟨_, _, _, rfl, ?_⟩
                have q2 : PostS G env σ H D (.ok .nx (((env.set i (some d)).set j (some (norm d2))).set l (some (norm d3))) c2) := q2
                have Rc := Ra.set (i := j) (r2.free (by rw [lfree_norm hd2]; exact hd2)) (norm_nown d2)
                exact q2 _ _ (Rc.set (i := l) (r3.free (by rw [lfree_norm hd3]; exact hd3)) (norm_nown d3)) ((Fa.trans0 (Av.set fun ds z => norm_nown d2 ds (Option.some.inj z))).trans0 (Av.set fun ds z => norm_nown d3 ds (Option.some.inj z)))⟩⟩
theorem ite_same {α : Type} {c : Prop} [Decidable c] {x y z : α} (h1 : x = z) (h2 : y = z) : (if c then x else y) = z := by split <;> assumption
theorem fm_short (f : Expr → Option Str) : ∀ l : List Expr, (∃ e ∈ l, f e = none) → (l.filterMap f).length ≠ l.length
  | [], ⟨e, h, _⟩ => by cases h
  | a :: l, ⟨e, h, he⟩ => by
    have hle := List.length_filterMap_le f l
    cases ha : f a with
    | none => rw [List.filterMap_cons, ha]; simp only [List.length_cons]; omega
    | some b =>
      rw [List.filterMap_cons, ha]
      simp only [List.length_cons]
      rcases List.mem_cons.mp h with z | z
      · rw [z, ha] at he; cases he
      · have := fm_short f l ⟨e, z, he⟩
        omega
/-- a name that is no plain local: the stores are not exchanged -/
theorem nsw {ts vs : List Expr} {pt pt2 : Pos} {kt k2 : Nat} {env : PySem.Env} (h : ∃ x p, Expr.Name x p ∈ ts ∧ (env.kindOf x == some .local) = false) : swappedStores [.Tuple ts kt pt] (.Tuple vs k2 pt2) env = pure none := by
  obtain ⟨x, p, hm, hk⟩ := h
  unfold swappedStores
  refine ite_same rfl (ite_same rfl (Eq.trans (if_pos ?_) rfl))
  rw [Bool.or_eq_true]
  left
  rw [bne_iff_ne]
  refine fm_short _ ts ⟨_, hm, ?_⟩
  simp [hk]
/-- the same where the stores are in order -/
theorem ss_tasO2 {st : Stmt} {K : PySem.W.Frag} {i j : Nat} {f1 : Env → C → R D} {f : Env → C → R (List D)} (hK : K = G.K) (h : PS X st (L2.tAsg (L2.tTup (L2.tCons (tEv G true f1) (tEvs G f))) (L2.gTup K 2 (L2.gCons (L2.gName i) (L2.gCons (L2.gName j) L2.gNil))))) : PS X st (tS G fun env c => RS.of (f1 env c) fun d c => RS.ofs (f env c) fun ds c => if ds.all lfree then match setAll [j] ds (env.set i (some d)) with
      | some e2 => .ok .nx e2 c
      | none => .no
    else .no) :=
  ps_imp h fun D σ H ⟨env, c, R, q⟩ => ⟨env, c, R, rs_of q fun d c1 v H1 R1 s1 rb rp fr q1 => ⟨env, c1, R1, rs_ofl1 q1 fun ds c2 vs H2 R2 s2 r2 q2 => by
    split at q2
    case isFalse => exact q2.elim
    rename_i hfree
    cases ds with
    | nil => exact q2.elim
    | cons d2 ds => cases ds with
      | cons _ _ => exact q2.elim
      | nil =>
        cases r2 with
        | cons r2 r3 => cases r3 with
          | nil =>
            have hd2 : lfree d2 = true := by simpa using hfree
            refine ⟨by show 2 ≤ sizeLine; rw [sizeLine_eq]; omega, fun p hp => ?_⟩
            have s3 : ∀ o, Stp G.ca H2 (upd H2 p o) := fun o => Stp.new hp
            obtain ⟨Ra, Fa⟩ := put_any R ((s1.trans s2).trans (s3 _)) (R2.new hp) (i := i) (((rp rfl).keep s2 R1.w).keep (s3 _) R2.w) fr
            refine ⟨p, _, rfl, .inl (.inl upd_same), rfl, _, _, rfl, _, _, rfl, rfl, ?_⟩
            have q2 : PostS G env σ H D (.ok .nx ((env.set i (some d)).set j (some (norm d2))) c2) := q2
            exact q2 _ _ (Ra.set (i := j) ((r2.keep (s3 _) R2.w).free (by rw [lfree_norm hd2]; exact hd2)) (norm_nown d2)) (Fa.trans0 (Av.set fun ds z => norm_nown d2 ds (Option.some.inj z)))⟩⟩
theorem ss_tasO3 {st : Stmt} {K : PySem.W.Frag} {i j l : Nat} {f1 : Env → C → R D} {f : Env → C → R (List D)} (hK : K = G.K) (h : PS X st (L2.tAsg (L2.tTup (L2.tCons (tEv G true f1) (tEvs G f))) (L2.gTup K 3 (L2.gCons (L2.gName i) (L2.gCons (L2.gName j) (L2.gCons (L2.gName l) L2.gNil)))))) : PS X st (tS G fun env c => RS.of (f1 env c) fun d c => RS.ofs (f env c) fun ds c => if ds.all lfree then match setAll [j, l] ds (env.set i (some d)) with
      | some e2 => .ok .nx e2 c
      | none => .no
    else .no) :=
  ps_imp h fun D σ H ⟨env, c, R, q⟩ => ⟨env, c, R, rs_of q fun d c1 v H1 R1 s1 rb rp fr q1 => ⟨env, c1, R1, rs_ofl1 q1 fun ds c2 vs H2 R2 s2 r2 q2 => by
    split at q2
    case isFalse => exact q2.elim
    rename_i hfree
    cases ds with
    | nil => exact q2.elim
    | cons d2 ds => cases ds with
      | nil => exact q2.elim
      | cons d3 ds => cases ds with
        | cons _ _ => exact q2.elim
        | nil =>
          cases r2 with
          | cons r2 r3 => cases r3 with
            | cons r3 r4 => cases r4 with
              | nil =>
                simp only [List.all_cons, List.all_nil, Bool.and_true, Bool.and_eq_true] at hfree
                obtain ⟨hd2, hd3⟩ := hfree
                refine ⟨by show 3 ≤ sizeLine; rw [sizeLine_eq]; omega, fun p hp => ?_⟩
                have s3 : ∀ o, Stp G.ca H2 (upd H2 p o) := fun o => Stp.new hp
                obtain ⟨Ra, Fa⟩ := put_any R ((s1.trans s2).trans (s3 _)) (R2.new hp) (i := i) (((rp rfl).keep s2 R1.w).keep (s3 _) R2.w) fr
                refine ⟨p, _, rfl, .inl (.inl upd_same), rfl, _, _, rfl, _, _, rfl, _, _, rfl, rfl, ?_⟩
                have q2 : PostS G env σ H D (.ok .nx (((env.set i (some d)).set j (some (norm d2))).set l (some (norm d3))) c2) := q2
                have Rc := Ra.set (i := j) ((r2.keep (s3 _) R2.w).free (by rw [lfree_norm hd2]; exact hd2)) (norm_nown d2)
                exact q2 _ _ (Rc.set (i := l) ((r3.keep (s3 _) R2.w).free (by rw [lfree_norm hd3]; exact hd3)) (norm_nown d3)) ((Fa.trans0 (Av.set fun ds z => norm_nown d2 ds (Option.some.inj z))).trans0 (Av.set fun ds z => norm_nown d3 ds (Option.some.inj z)))⟩⟩
def augE : Bop → Operator → Bool
  | .add, .Add => true | .sub, .Sub => true
  | _, _ => false
theorem ss_aug {i : Nat} {x : Str} {e : Expr} {f : Env → C → R D} {o : Bop} {op : Operator} {nb : Bool} {pos pos' : Pos} (hN : X.N.Nodup) (hi : X.N[i]? = some x) (hx : Loc X.env.scope x) (hf : X.fn x = true ∨ X.env.scope.names.lookup x = some .local) (he : PE X e (tEv G nb f)) (ho : augE o op = true) :
    PS X (.AugAssign (.Name x pos') op e pos) (tS G fun env c => match env[i]? with
    | some (some (.int x)) => RS.of (f env c) fun y c => match augv o x y with
      | some z => .ok .nx (env.set i (some (.int z))) c
      | none => .no
    | _ => .no) := by
  have go : ∀ (g : Int → Int → Int) (op : Operator), L2.PIp X op (L2.ipI g) → (∀ (x : Int) (y : D) (z : Int), augv o x y = some z → ∃ k, y = .int k ∧ z = g x k) → PS X (.AugAssign (.Name x pos') op e pos) (tS G fun env c => match env[i]? with
    | some (some (.int x)) => RS.of (f env c) fun y c => match augv o x y with
      | some z => .ok .nx (env.set i (some (.int z))) c
      | none => .no
    | _ => .no) := fun g op hop hg => ps_imp (L2.ps_aug hN hi hx he hop hf) fun D σ H ⟨env, c, R, q⟩ => by
    dsimp only at q
    split at q
    · rename_i xi e1
      obtain ⟨v, h1, h2⟩ := R.val i _ e1 fun _ z => by cases z
      cases h2
      refine ⟨_, h1, env, c, R, rs_of q fun d c1 w H1 R1 s1 rb _ _ q1 => ?_⟩
      split at q1
      · rename_i z hz
        obtain ⟨k, rfl, rfl⟩ := hg _ _ _ hz
        have := rb_int rb
        subst this
        exact ⟨xi, k, rfl, rfl, q1 _ _ (R1.set (.int _) nown_int) ((Frm.stp R s1).set nown_int)⟩
      · exact q1.elim
    · exact q.elim
  cases o <;> first | (cases op <;> cases ho; done) | skip
  · cases op <;> first | (cases ho; done) | skip
    exact go _ _ L2.ip_add fun x y z h => by
      cases y <;> first | (cases h; done) | exact ⟨_, rfl, (Option.some.inj h).symm⟩
  · cases op <;> first | (cases ho; done) | skip
    exact go _ _ L2.ip_sub fun x y z h => by
      cases y <;> first | (cases h; done) | exact ⟨_, rfl, (Option.some.inj h).symm⟩
theorem ss_raise {e : Expr} {k : Nat} {cls : Value} {pos : Pos} (hc : X.calm = true) (tk : L2N.Takes X (fun cls d _ H => G.E cls d H)) (hx : G.xa k = some cls) (he : L2N.PMk X e (fun _ H Q => Q cls none H)) : PS X (.Raise (some e) none pos) (tS G fun _ c => .ex ⟨k, []⟩ c) :=
  ps_imp (L2N.ps_raise hc tk he) fun D σ H ⟨env, c, R, q⟩ => q cls none H R.inh ⟨hx, .inl ⟨rfl, rfl⟩⟩
theorem pmk_one {C : Addr} {bmB : List Value} {B newId initId : String} {x : Str} {e : Expr} {ta : TE} {p pos : Pos} (F : ExcBaseFacts B newId initId bmB) (q : PySem.W.excIn X.K C bmB newId = true) (gC : X.mg x = some (.ref C)) (kC : PySem.W.keepIn X.K (.ref C) = true) (r : L2.Raises X (.ref C)) (hg : Gl X x)
    (he : PE X e ta) (hs : starEach [e] X.env = (false, eval e X.env) :: starEach [] X.env) (hdb : (x == ("__debug__" : Str)) = false) :
    L2N.PMk X (.Call (.Name x p) [e] [] pos) (fun σ H Q => ta σ H fun _ H1 => Q (.ref C) none H1) := by
  intro pins s σ H Q I h
  refine wpAny_Call_Name_kw (L2.ld_glob I hg gC (PySem.W.callWith_K (h₀ := X.base) I.ok.mod.kin kC ?_ hs (by rfl)) hdb)
  rw [hs]
  show wpAny _ _ (spliced ((false, eval e X.env) :: backTo pos (starEach [] X.env))) _ _ s
  refine Calls.spliced_cons (L2.thn (he.run pins s σ H _ I h) ?_)
  rintro u s1 ⟨v, H1, I1, r1, q1⟩
  refine Calls.spliced_nil ⟨I1.kIn, ?_⟩
  show wpAny _ _ (call (.ref C) [u]) _ _ _
  obtain ⟨bm, N, nm, qn, bs, hdct, sn, sub, ab, col, dd, k0, k1, k2, k3, k5, mN, hC, hN, hni, T⟩ := L2.exc_obj I1.kIn q
  exact wpAny_call_exc_subT F T hC hN hni (fun h' e hm => L2N.mk_of I1 hm r q1 (I1.hok.gone hm.new)) (by show 1 ≤ sizeLine; rw [PySem.sizeLine_eq]; omega)
theorem ss_raise1 {e : Expr} {k : Nat} {nb : Bool} {fa : Env → C → R D} {cls : Value} {pos : Pos} (hc : X.calm = true) (tk : L2N.Takes X (fun cls d _ H => G.E cls d H)) (hx : G.xa k = some cls) (he : L2N.PMk X e (fun σ H Q => tEv G nb fa σ H fun _ H1 => Q cls none H1)) : PS X (.Raise (some e) none pos) (tS G fun env c => RS.of (fa env c) fun _ c => .ex ⟨k, []⟩ c) :=
  ps_imp (L2N.ps_raise hc tk he) fun D σ H ⟨env, c, R, q⟩ => ⟨env, c, R, rs_of q fun d c1 v H1 R1 s1 rb rp fr q1 => q1 cls none H1 R1.inh ⟨hx, .inl ⟨rfl, rfl⟩⟩⟩
end
end PX

/-! # PX: does the text say what my tree says? statements -/
namespace PX
open PySem PySem.Spec PyProof.Rows
open L2 (V HO Hp upd SqT SqL Rd TE TT TA TS TI TG Cx PE PT PA PS PSs PI PG Inv upd_same upd_ne OpR CallR IxR RelV Vals Room Vis Gl Loc)
def lcScope : Expr → Option Scope
  | .ListComp _ _ s _ => some s
  | .SetComp _ _ s _ => some s
  | .DictComp _ _ _ s _ => some s
  | _ => none
theorem sw_none {p : Expr} {t : Option Expr} {l : Nat} {env : PySem.Env} (h : (lcScope p).isNone = true) : swapsWith p t l env = pure false := by
  cases p <;> first | (cases h; done) | rfl
def isLoc (sc : Scope) (x : Str) : Bool := sc.names.lookup x == some .local
def swB (sc : Scope) (p : Expr) (x : Str) (pp : Pos) : Bool := match p with
  | .ListComp _ _ s vp => isLoc sc x && pp.line == vp.line && !(s.names.any fun (n, k) => n == x && (k == .local || k == .cell))
  | _ => false
theorem blk_fn {env : PySem.Env} (hk : env.scope.kind = .function) : env.blockKind = .function := by unfold Env.blockKind; rw [hk]; rfl
theorem sw_lc {elt : Expr} {gs : List Comprehension} {s : Scope} {vp pp : Pos} {x : Str} {l : Nat} {env : PySem.Env} (hk : env.scope.kind = .function) : swapsWith (.ListComp elt gs s vp) (some (.Name x pp)) l env = pure (swB env.scope (.ListComp elt gs s vp) x pp) := by
  have hb := blk_fn hk
  unfold swapsWith
  simp only [hb] <;> rfl
/-- the stores of such an assignment are not exchanged -/
def noSwap (tg p : Expr) : Bool := match tg with
  | .Tuple _ _ _ => match p with
    | .Tuple vs _ _ => vs.all (foldedForSure 8)
    | _ => true
  | .Subscript _ _ _ => true
  | _ => false
theorem noSwap_ok {tg p : Expr} {env : PySem.Env} (h : noSwap tg p = true) : swappedStores [tg] p env = pure none := by
  cases tg <;> first | (cases h; done) | skip
  · rfl
  · cases p <;> first | rfl | skip
    rename_i ts k1 p1 vs k2 p2
    have h : vs.all (foldedForSure 8) = true := h
    unfold swappedStores
    simp only [h]
    split
    · rfl
    · split
      · rfl
      · split <;> rfl
theorem sws_ok {tg p : Expr} {l : Nat} {env : PySem.Env} (h : noSwap tg p = true) : swapsWithSole [tg] p l env = pure false := by
  cases tg <;> first | (cases h; done) | skip
  all_goals cases p <;> rfl
def sameLine (ps : List Pos) : Bool := match ps with
  | [] => true
  | p :: r => r.all fun q => q.line == p.line
theorem swp2 {x y : Str} {px py pt pt2 : Pos} {kt k2 : Nat} {a b : Expr} {env : PySem.Env} (hk : env.scope.kind = .function) (hx : env.scope.names.lookup x = some .local) (hy : env.scope.names.lookup y = some .local) (hl : (py.line == px.line) = true) (hxy : (x == y) = false)
    (ha : isStar a = false) (hb : isStar b = false) (h1 : [a, b].all (foldedForSure 8) = false) (h2 : [a, b].all (constantsAlone 8) = false) : swappedStores [.Tuple [.Name x px, .Name y py] kt pt] (.Tuple [a, b] k2 pt2) env = pure (some [x, y]) := by
  have hb' := blk_fn hk
  have kx : env.kindOf x = some .local := hx
  have ky : env.kindOf y = some .local := hy
  have hs : [a, b].any isStar = false := by simp [ha, hb]
  have e1 : ((Expr.Name y py).pos.line == (Expr.Name x px).pos.line) = true := hl
  have e2 : (y == x) = false := by rw [BEq.comm]; exact hxy
  unfold swappedStores
  simp only [hb', h1, h2, List.length_cons, List.length_nil, List.filterMap_cons, List.filterMap_nil, List.head?_cons, Option.map_some, Option.getD_some, Expr.pos, kx, ky, hl]
  refine Eq.trans (if_neg (by decide)) (Eq.trans (if_neg fun w => Bool.false_ne_true (hs.symm.trans w)) ?_)
  simp [List.eraseDups, List.eraseDupsBy, List.eraseDupsBy.loop, e2]
theorem swp3 {x y z : Str} {px py pz pt pt2 : Pos} {kt k2 : Nat} {a b c : Expr} {env : PySem.Env} (hk : env.scope.kind = .function) (hx : env.scope.names.lookup x = some .local) (hy : env.scope.names.lookup y = some .local) (hz : env.scope.names.lookup z = some .local) (hl : (py.line == px.line) = true) (hl2 : (pz.line == px.line) = true) (hxy : (x == y) = false) (hxz : (x == z) = false) (hyz : (y == z) = false)
    (ha : isStar a = false) (hb : isStar b = false) (hc : isStar c = false) (h1 : [a, b, c].all (foldedForSure 8) = false) (h2 : [a, b, c].all (constantsAlone 8) = false) : swappedStores [.Tuple [.Name x px, .Name y py, .Name z pz] kt pt] (.Tuple [a, b, c] k2 pt2) env = pure (some [x, y, z]) := by
  have hb' := blk_fn hk
  have kx : env.kindOf x = some .local := hx
  have ky : env.kindOf y = some .local := hy
  have kz : env.kindOf z = some .local := hz
  have hs : [a, b, c].any isStar = false := by simp [ha, hb, hc]
  have e2 : (y == x) = false := by rw [BEq.comm]; exact hxy
  have e3 : (z == x) = false := by rw [BEq.comm]; exact hxz
  have e4 : (z == y) = false := by rw [BEq.comm]; exact hyz
  unfold swappedStores
  simp only [hb', h1, h2, List.length_cons, List.length_nil, List.filterMap_cons, List.filterMap_nil, List.head?_cons, Option.map_some, Option.getD_some, Expr.pos, kx, ky, kz, hl, hl2]
  refine Eq.trans (if_neg (by decide)) (Eq.trans (if_neg fun w => Bool.false_ne_true (hs.symm.trans w)) ?_)
  simp [List.eraseDups, List.eraseDupsBy, List.eraseDupsBy.loop, e2, e3, e4]
def isVb : E → Bool
  | .vb _ => true
  | _ => false
def isLC : Expr → Bool
  | .ListComp _ [⟨_, _, _, 0⟩] _ _ => true
  | _ => false
def isLcE : E → Bool
  | .lc .. => true
  | _ => false
def isTupT : Expr → Bool
  | .Tuple _ _ _ => true
  | _ => false
section
variable (k : Ck)
def okPar (sc : Scope) : List Nat → List Expr → Bool
  | [i, j], [.Name x px, .Name y py] => slotB k i x && slotB k j y && isLoc sc x && isLoc sc y && (py.line == px.line) && !(x == y) && !(i == j)
  | [i, j, l], [.Name x px, .Name y py, .Name z pz] => slotB k i x && slotB k j y && slotB k l z && isLoc sc x && isLoc sc y && isLoc sc z && (py.line == px.line) && (pz.line == px.line) && !(x == y) && !(x == z) && !(y == z) && !(i == j) && !(i == l) && !(j == l)
  | _, _ => false
def okParT (sc : Scope) : List Nat → List Expr → Bool
  | [i, j], [.Name x _, .Name y _] => slotB k i x && slotB k j y && locB sc none x && locB sc none y && !(isLoc sc x && isLoc sc y)
  | [i, j, l], [.Name x _, .Name y _, .Name z _] => slotB k i x && slotB k j y && slotB k l z && locB sc none x && locB sc none y && locB sc none z && !(isLoc sc x && isLoc sc y && isLoc sc z)
  | _, _ => false
mutual
def okS : S → Scope → Stmt → Bool
  | .asg i e, sc, p => match p with
    | .Assign [.Name x _] q _ => slotB k i x && locB sc none x && okE k e sc none q && nbE e && ((lcScope q).isNone || (isLC q && isLcE e))
    | _ => false
  | .tas t e, sc, p => match p with
    | .Assign [tg] q _ => okTg k sc none t tg && okE k e sc none q && nbE e && noSwap tg q && isTupT tg
    | _ => false
  | .par is es, sc, p => match p with
    | .Assign [.Tuple ts _ _] (.Tuple vs _ _) _ => okPar k sc is ts && decide (vs.length = is.length) && okEs k es sc none vs && es.all nbE && !(vs.all (foldedForSure 8)) && !(vs.all (constantsAlone 8))
    | _ => false
  | .parO i e js es, sc, p => match p with
    | .Assign [.Tuple ts _ _] (.Tuple (v :: vs) _ _) _ => (okPar k sc (i :: js) ts || okParT k sc (i :: js) ts) && decide (vs.length = js.length) && okE k e sc none v && nbE e && !isStar v && okEs k es sc none vs && es.all nbE && !((v :: vs).all (foldedForSure 8)) && !((v :: vs).all (constantsAlone 8))
    | _ => false
  | .put i ke e, sc, p => match p with
    | .Assign [.Subscript (.Name x _) q _] v _ => slotB k i x && visB sc x && okN x && okE k ke sc none q && !isSlice q && okE k e sc none v && nbE e
    | _ => false
  | .app i e, sc, p => match p with
    | .Expr (.Call (.Attribute (.Name x _) m ap) [q] [] cp) _ => decide (m = "append") && slotB k i x && visB sc x && okN x && okE k e sc none q && !isStar q && nbE e && (ap.endLine == cp.line)
    | _ => false
  | .ret e, sc, p => match p with
    | .Return (some q) _ => okE k e sc none q && (nbE e || isVb e)
    | _ => false
  | .ret0, _, p => match p with
    | .Return none _ => true
    | _ => false
  | .ife t a b, sc, p => match p with
    | .If q x y _ => okE k t sc none q && okSs a sc x && okSs b sc y
    | _ => false
  | .fr t it b, sc, p => match p with
    | .For tg q body [] _ => okI k it sc none tg q && nbI it && okTg k sc none t tg && okSs b sc body && !isSet q
    | _ => false
  | .fz _ s, sc, p => okS s sc p
  | .wh t b, sc, p => match p with
    | .While q body [] _ => okE k t sc none q && okSs b sc body
    | _ => false
  | .rs c, sc, p => match p with
    | .Raise (some (.Call (.Name x _) [.Constant (.str _) _ _] [] _)) none _ => decide (k.en[c]? = some x) && glB sc x && okN x
    | _ => false
  | .rse c e, sc, p => match p with
    | .Raise (some (.Call (.Name x _) [q] [] _)) none _ => decide (k.en[c]? = some x) && glB sc x && okN x && okE k e sc none q && !isStar q
    | _ => false
  | .ex e, sc, p => match p with
    | .Expr q _ => okE k e sc none q && (lcScope q).isNone
    | _ => false
  | .aug i o e, sc, p => match p with
    | .AugAssign (.Name x _) op q _ => slotB k i x && locB sc none x && okE k e sc none q && augE o op
    | _ => false
  | .pass, _, p => match p with
    | .Pass _ => true
    | .Expr (.Constant (.str _) _ _) _ => true
    | _ => false
  | .brk, _, p => match p with
    | .Break _ => true
    | _ => false
  | .cont, _, p => match p with
    | .Continue _ => true
    | _ => false
def okSs : List S → Scope → List Stmt → Bool
  | [], _, ps => ps.isEmpty
  | s :: r, sc, ps => match ps with
    | p :: ps => okS s sc p && okSs r sc ps
    | [] => false
end
end
structure StaS (k : Ck) (T : Tab) (cl : Cl) (n : Nat) (sc : Scope) (X : Cx) (G : Gx) : Prop extends Sta k T cl n sc none X G where
  kind : sc.kind = .function
  po : PassesOwn (model X.prog X.w) X.A X.env X.xe
  ens : ∀ (j : Nat) (x : Str), k.en[j]? = some x → ∃ (C : Addr) (bmB : List Value) (B newId initId : String), ExcBaseFacts B newId initId bmB ∧ PySem.W.excIn X.K C bmB newId = true ∧ X.mg x = some (.ref C) ∧ PySem.W.keepIn X.K (.ref C) = true ∧ L2.Raises X (.ref C) ∧ G.xa j = some (.ref C)
section
variable {k : Ck} {T : Tab} {cl : Cl} {n : Nat} {sc : Scope} {X : Cx} {G : Gx}
theorem sE1 (S : Sta k T cl n sc none X G) {e : E} {p : Expr} (h : okE k e sc none p = true) (hn : nbE e = true) : PE X p (tEv G true (ev T cl e)) := by
  have := sE e sc none p h X G S
  rw [hn] at this
  exact this
theorem evS_ret {e : E} (h : isVb e = false) {env : Env} {c : C} : evS T cl (.ret e) env c = RS.of (ev T cl e env c) fun d c => .ok (.rt d) env c := by
  cases e <;> first | (cases h; done) | simp only [evS]
theorem isLoc_ok {x : Str} (h : isLoc sc x = true) : sc.names.lookup x = some .local := by
  unfold isLoc at h
  exact eq_of_beq h
theorem lc_set (S : StaS k T cl n sc X G) {i : Nat} {x : Str} {e : E} {q : Expr} {pp pos : Pos} (hi : slotB k i x = true) (hl : locB sc none x = true) (hq : okE k e sc none q = true) (hn : nbE e = true) (hc : isLC q = true) (he : isLcE e = true) :
    PS X (.Assign [.Name x pp] q pos) (tS G fun env c => RS.of (ev T cl e env c) fun d c => .ok .nx (env.set i (some d)) c) := by
  have S0 := S.toSta
  obtain ⟨h1, h2⟩ := loc_of S0 hl
  unfold isLC at hc
  split at hc
  · rename_i elt ptg pit ifs scope vp
    have hkind : X.env.scope.kind = .function := by rw [S0.hsc]; exact S.kind
    have hsw := sw_lc (elt := elt) (gs := [⟨ptg, pit, ifs, 0⟩]) (s := scope) (vp := vp) (pp := pp) (x := x) (l := pos.line) hkind
    cases hb : swB X.env.scope (.ListComp elt [⟨ptg, pit, ifs, 0⟩] scope vp) x pp with
    | false =>
      rw [hb] at hsw
      exact ss_set (by rw [S0.hN]; exact S0.nd) (slot_of S0 hi) h1 h2 (sE1 S0 hq hn) hsw
    | true =>
      rw [hb] at hsw
      have hloc : X.env.scope.names.lookup x = some .local := by
        unfold swB at hb
        simp only [Bool.and_eq_true] at hb
        exact isLoc_ok hb.1.1
      cases e <;> try (cases he; done)
      rename_i elt' tg it cond own
      simp only [okE, Bool.and_eq_true, Bool.not_eq_true'] at hq
      obtain ⟨⟨⟨⟨⟨⟨⟨h1, h2⟩, h3⟩, h4⟩, h5⟩, h6⟩, h7⟩, h8⟩ := hq
      have hsub : ∀ i ∈ slots tg, i ∈ own := fun i hi => of_decide_eq_true (List.all_eq_true.mp h7 i hi)
      have hbk : L2.BlkOk X.N X.env.scope scope (ownP k own) := L2.blkOk_by (by rw [S0.hN, S0.hsc]; exact h2)
      refine ss_setT (L2.ps_setLc (g := tLcG G (slots tg) (tgt tg)) (tt := tLcT G (evc T cl cond)) (te := tLcE G (ev T cl elt')) S0.calm (by rw [S0.hN]; exact S0.nd) (slot_of S0 hi) hloc hsw (sI it sc none ptg pit h1 X G S0) hbk
        (fun s H C' cls fp => blk_tg fun O => sTg (S0.blk scope O s H C' cls fp) tg ptg h3)
        (fun s H C' cls fp => blk_t fun O => sC cond _ _ _ h4 _ _ (S0.blk scope O s H C' cls fp))
        (fun s H C' cls fp => blk_e fun O => ?_) (no_set h8)) fun σ H Q q => by rw [own_fst]; exact lc_read hsub q
      have := sE elt' _ _ _ h5 _ _ (S0.blk scope O s H C' cls fp)
      rw [h6] at this
      exact this
  · cases hc
theorem isLoc_kind {x : Str} (hsc : X.env.scope = sc) (h : isLoc sc x = false) : (X.env.kindOf x == some .local) = false := by
  rw [← hsc] at h
  exact h
theorem parO_t (S : StaS k T cl n sc X G) {i0 : Nat} {e0 : E} {js : List Nat} {es : List E} {ts vs : List Expr} {v0 : Expr} {kt k2 : Nat} {pt pt2 pos : Pos} (h : okParT k sc (i0 :: js) ts = true) (h0 : vs.length = js.length) (hpa : PA X (v0 :: vs) (L2.tCons (tEv G true (ev T cl e0)) (tEvs G (evs T cl es)))) :
    PS X (.Assign [.Tuple ts kt pt] (.Tuple (v0 :: vs) k2 pt2) pos) (tS G (evS T cl (.parO i0 e0 js es))) := by
  unfold okParT at h
  have nd : X.N.Nodup := by rw [S.hN]; exact S.nd
  split at h
  · rename_i i j x px y py heq
    cases heq
    simp only [Bool.and_eq_true, Bool.not_eq_true', Bool.and_eq_false_iff] at h
    obtain ⟨⟨⟨⟨a1, a2⟩, a3⟩, a4⟩, a5⟩ := h
    obtain ⟨l1, l2⟩ := loc_of S.toSta a3
    obtain ⟨l3, l4⟩ := loc_of S.toSta a4
    refine ps_eq (ss_tasO2 (j := j) S.hK (L2.ps_asg (L2.pe_tup hpa) (L2.pg_tup S.calm (L2.pgs_cons (L2.pg_name nd (slot_of S.toSta a1) l1 l2) (L2.pgs_cons (L2.pg_name nd (slot_of S.toSta a2) l3 l4) L2.pgs_nil))) rfl (nsw ?_))) fun env c => by simp only [evS] <;> rfl
    rcases a5 with z | z
    · exact ⟨x, px, by simp, isLoc_kind S.hsc z⟩
    · exact ⟨y, py, by simp, isLoc_kind S.hsc z⟩
  · rename_i i j l x px y py z pz heq
    cases heq
    simp only [Bool.and_eq_true, Bool.not_eq_true', Bool.and_eq_false_iff] at h
    obtain ⟨⟨⟨⟨⟨⟨a1, a2⟩, a3⟩, a4⟩, a5⟩, a6⟩, a7⟩ := h
    obtain ⟨l1, l2⟩ := loc_of S.toSta a4
    obtain ⟨l3, l4⟩ := loc_of S.toSta a5
    obtain ⟨l5, l6⟩ := loc_of S.toSta a6
    refine ps_eq (ss_tasO3 (j := j) (l := l) S.hK (L2.ps_asg (L2.pe_tup hpa) (L2.pg_tup S.calm (L2.pgs_cons (L2.pg_name nd (slot_of S.toSta a1) l1 l2) (L2.pgs_cons (L2.pg_name nd (slot_of S.toSta a2) l3 l4) (L2.pgs_cons (L2.pg_name nd (slot_of S.toSta a3) l5 l6) L2.pgs_nil)))) rfl (nsw ?_))) fun env c => by simp only [evS] <;> rfl
    rcases a7 with (q | q) | q
    · exact ⟨x, px, by simp, isLoc_kind S.hsc q⟩
    · exact ⟨y, py, by simp, isLoc_kind S.hsc q⟩
    · exact ⟨z, pz, by simp, isLoc_kind S.hsc q⟩
  · cases h
mutual
theorem sS : ∀ (s : S) (p : Stmt), okS k s sc p = true → StaS k T cl n sc X G → PS X p (tS G (evS T cl s))
  | .asg i e, p, h, S => by
    simp only [okS] at h
    split at h
    · simp only [Bool.and_eq_true, Bool.or_eq_true] at h
      obtain ⟨⟨⟨⟨h1, h2⟩, h3⟩, h4⟩, h5⟩ := h
      obtain ⟨l1, l2⟩ := loc_of S.toSta h2
      rcases h5 with h5 | h5
      · exact ps_eq (ss_set (by rw [S.hN]; exact S.nd) (slot_of S.toSta h1) l1 l2 (sE1 S.toSta h3 h4) (sw_none h5)) fun env c => by simp only [evS]
      · exact ps_eq (lc_set S h1 h2 h3 h4 h5.1 h5.2) fun env c => by simp only [evS]
    · cases h
  | .tas t e, p, h, S => by
    simp only [okS] at h
    split at h
    · simp only [Bool.and_eq_true] at h
      obtain ⟨⟨⟨⟨h1, h2⟩, h3⟩, h4⟩, h5⟩ := h
      refine ps_eq (ss_tas (sE1 S.toSta h2 h3) (sTg S.toSta t _ h1) (sws_ok h4) (noSwap_ok h4) ?_) fun env c => by simp only [evS] <;> rfl
      rename_i tg q pos
      cases tg <;> first | (cases h5; done) | rfl
    · cases h
  | .par is es, p, h, S => by
    simp only [okS] at h
    split at h
    · rename_i ts kt pt vs k2 pt2 pos
      simp only [Bool.and_eq_true, Bool.not_eq_true'] at h
      obtain ⟨⟨⟨⟨⟨h1, h0⟩, h2⟩, h3⟩, h4⟩, h5⟩ := h
      have h0 := of_decide_eq_true h0
      have hpa := sEs es sc none vs h2 h3 X G S.toSta
      have hst := okEs_star h2
      have hkind : X.env.scope.kind = .function := by rw [S.hsc]; exact S.kind
      unfold okPar at h1
      revert h0
      split at h1
      · rename_i i j x px y py
        simp only [Bool.and_eq_true, Bool.not_eq_true'] at h1
        obtain ⟨⟨⟨⟨⟨⟨a1, a2⟩, a3⟩, a4⟩, a5⟩, a6⟩, a7⟩ := h1
        intro h0
        have q1 : X.env.scope.names.lookup x = some .local := by rw [S.hsc]; exact isLoc_ok a3
        have q2 : X.env.scope.names.lookup y = some .local := by rw [S.hsc]; exact isLoc_ok a4
        have hij : i ≠ j := fun z => by rw [z] at a7; simp at a7
        refine ps_eq (f := fun env c => RS.ofs (evs T cl es env c) fun ds c => match setAll [i, j] ds env with | some e2 => .ok .nx e2 c | none => .no) ?_ fun env c => by simp only [evS] <;> rfl
        match vs, h0, h4, h5, hst, hpa with
        | [a, b], _, h4, h5, hst, hpa =>
          simp only [List.all_cons, List.all_nil, Bool.and_true, Bool.and_eq_true, Bool.not_eq_true'] at hst
          exact ss_par2 (L2.ps_par S.calm (by rw [S.hN]; exact S.nd) (slot_of S.toSta a1) (slot_of S.toSta a2) hij q1 q2 hpa (swp2 hkind q1 q2 a5 a6 hst.1 hst.2 h4 h5)) fun σ H Q q => q
      · rename_i i j l x px y py z pz
        simp only [Bool.and_eq_true, Bool.not_eq_true'] at h1
        obtain ⟨⟨⟨⟨⟨⟨⟨⟨⟨⟨⟨⟨⟨a1, a2⟩, a3⟩, a4⟩, a5⟩, a6⟩, a7⟩, a8⟩, a9⟩, b1⟩, b2⟩, b3⟩, b4⟩, b5⟩ := h1
        intro h0
        have q1 : X.env.scope.names.lookup x = some .local := by rw [S.hsc]; exact isLoc_ok a4
        have q2 : X.env.scope.names.lookup y = some .local := by rw [S.hsc]; exact isLoc_ok a5
        have q3 : X.env.scope.names.lookup z = some .local := by rw [S.hsc]; exact isLoc_ok a6
        have hij : i ≠ j := fun z => by rw [z] at b3; simp at b3
        have hil : i ≠ l := fun z => by rw [z] at b4; simp at b4
        have hjl : j ≠ l := fun z => by rw [z] at b5; simp at b5
        refine ps_eq (f := fun env c => RS.ofs (evs T cl es env c) fun ds c => match setAll [i, j, l] ds env with | some e2 => .ok .nx e2 c | none => .no) ?_ fun env c => by simp only [evS] <;> rfl
        match vs, h0, h4, h5, hst, hpa with
        | [a, b, d], _, h4, h5, hst, hpa =>
          simp only [List.all_cons, List.all_nil, Bool.and_true, Bool.and_eq_true, Bool.not_eq_true'] at hst
          exact ss_par3 (L2.ps_par3 S.calm (by rw [S.hN]; exact S.nd) (slot_of S.toSta a1) (slot_of S.toSta a2) (slot_of S.toSta a3) hij hil hjl q1 q2 q3 hpa (swp3 hkind q1 q2 q3 a7 a8 a9 b1 b2 hst.1 hst.2.1 hst.2.2 h4 h5)) fun σ H Q q => q
      · exact absurd h1 (by simp)
    · cases h
  | .parO i0 e0 js es, p, h, S => by
    simp only [okS] at h
    split at h
    · rename_i ts kt pt v0 vs k2 pt2 pos
      simp only [Bool.and_eq_true, Bool.not_eq_true'] at h
      obtain ⟨⟨⟨⟨⟨⟨⟨⟨hor, h0⟩, g1⟩, g2⟩, g3⟩, h2⟩, h3⟩, h4⟩, h5⟩ := h
      have h0 := of_decide_eq_true h0
      have hpa := L2.pa_cons (sE1 S.toSta g1 g2) (sEs es sc none vs h2 h3 X G S.toSta) (star_cons g3)
      have hst : (v0 :: vs).all (fun e => !isStar e) = true := by rw [List.all_cons, okEs_star h2, g3]; rfl
      have hkind : X.env.scope.kind = .function := by rw [S.hsc]; exact S.kind
      rcases (Bool.or_eq_true _ _).mp hor with h1 | h1
      case inr => exact parO_t S h1 h0 hpa
      clear hor
      unfold okPar at h1
      revert h0
      split at h1
      · rename_i i j x px y py heq
        cases heq
        simp only [Bool.and_eq_true, Bool.not_eq_true'] at h1
        obtain ⟨⟨⟨⟨⟨⟨a1, a2⟩, a3⟩, a4⟩, a5⟩, a6⟩, a7⟩ := h1
        intro h0
        have q1 : X.env.scope.names.lookup x = some .local := by rw [S.hsc]; exact isLoc_ok a3
        have q2 : X.env.scope.names.lookup y = some .local := by rw [S.hsc]; exact isLoc_ok a4
        have hij : i0 ≠ j := fun z => by rw [z] at a7; simp at a7
        refine ps_eq (f := fun env c => RS.of (ev T cl e0 env c) fun d c => RS.ofs (evs T cl es env c) fun ds c => if ds.all lfree then match setAll [j] ds (env.set i0 (some d)) with | some e2 => .ok .nx e2 c | none => .no else .no) ?_ fun env c => by simp only [evS] <;> rfl
        match vs, h0, h4, h5, hst, hpa with
        | [b], _, h4, h5, hst, hpa =>
          simp only [List.all_cons, List.all_nil, Bool.and_true, Bool.and_eq_true, Bool.not_eq_true'] at hst
          exact ss_parO2 (L2.ps_par S.calm (by rw [S.hN]; exact S.nd) (slot_of S.toSta a1) (slot_of S.toSta a2) hij q1 q2 hpa (swp2 hkind q1 q2 a5 a6 hst.1 hst.2 h4 h5))
      · rename_i i j l x px y py z pz heq
        cases heq
        simp only [Bool.and_eq_true, Bool.not_eq_true'] at h1
        obtain ⟨⟨⟨⟨⟨⟨⟨⟨⟨⟨⟨⟨⟨a1, a2⟩, a3⟩, a4⟩, a5⟩, a6⟩, a7⟩, a8⟩, a9⟩, b1⟩, b2⟩, b3⟩, b4⟩, b5⟩ := h1
        intro h0
        have q1 : X.env.scope.names.lookup x = some .local := by rw [S.hsc]; exact isLoc_ok a4
        have q2 : X.env.scope.names.lookup y = some .local := by rw [S.hsc]; exact isLoc_ok a5
        have q3 : X.env.scope.names.lookup z = some .local := by rw [S.hsc]; exact isLoc_ok a6
        have hij : i0 ≠ j := fun z => by rw [z] at b3; simp at b3
        have hil : i0 ≠ l := fun z => by rw [z] at b4; simp at b4
        have hjl : j ≠ l := fun z => by rw [z] at b5; simp at b5
        refine ps_eq (f := fun env c => RS.of (ev T cl e0 env c) fun d c => RS.ofs (evs T cl es env c) fun ds c => if ds.all lfree then match setAll [j, l] ds (env.set i0 (some d)) with | some e2 => .ok .nx e2 c | none => .no else .no) ?_ fun env c => by simp only [evS] <;> rfl
        match vs, h0, h4, h5, hst, hpa with
        | [b, d], _, h4, h5, hst, hpa =>
          simp only [List.all_cons, List.all_nil, Bool.and_true, Bool.and_eq_true, Bool.not_eq_true'] at hst
          exact ss_parO3 (L2.ps_par3 S.calm (by rw [S.hN]; exact S.nd) (slot_of S.toSta a1) (slot_of S.toSta a2) (slot_of S.toSta a3) hij hil hjl q1 q2 q3 hpa (swp3 hkind q1 q2 q3 a7 a8 a9 b1 b2 hst.1 hst.2.1 hst.2.2 h4 h5))
      · exact absurd h1 (by simp)
    · cases h
  | .put i ke e, p, h, S => by
    simp only [okS] at h
    split at h
    · simp only [Bool.and_eq_true, Bool.not_eq_true'] at h
      obtain ⟨⟨⟨⟨⟨⟨h1, h2⟩, h3⟩, h4⟩, h5⟩, h6⟩, h7⟩ := h
      obtain ⟨n1, n2⟩ := okN_d h3
      refine ps_eq (ss_put (slot_of S.toSta h1) (vis_of S.toSta h2) n1 n2 (sE1 S.toSta h6 h7) (sE ke sc none _ h4 X G S.toSta) (sws_ok rfl) (noSwap_ok rfl) ?_) fun env c => by simp only [evS] <;> rfl
      intro v
      rename_i x _ q _ _ _
      cases q <;> first | (cases h5; done) | rfl
    · cases h
  | .app i e, p, h, S => by
    simp only [okS] at h
    split at h
    · simp only [Bool.and_eq_true, Bool.not_eq_true', decide_eq_true_eq] at h
      obtain ⟨⟨⟨⟨⟨⟨⟨h0, h1⟩, h2⟩, h3⟩, h4⟩, h5⟩, h6⟩, h7⟩ := h
      obtain ⟨n1, n2⟩ := okN_d h3
      subst h0
      exact ps_eq (ss_app S.hK (slot_of S.toSta h1) (vis_of S.toSta h2) n1 n2 (sE1 S.toSta h4 h6) h5 h7) fun env c => by simp only [evS] <;> rfl
    · cases h
  | .ret e, p, h, S => by
    simp only [okS] at h
    split at h
    · simp only [Bool.and_eq_true, Bool.or_eq_true] at h
      cases hv : isVb e with
      | false =>
        rw [hv] at h
        exact ps_eq (ss_ret (sE1 S.toSta h.1 (h.2.resolve_right (by decide)))) fun env c => evS_ret hv
      | true =>
        cases e <;> first | (cases hv; done) | skip
        rename_i i
        have h := h.1
        simp only [okE] at h
        split at h
        · simp only [Bool.and_eq_true] at h
          obtain ⟨h1, h2⟩ := okN_d h.2
          exact ps_eq (ss_retv (slot_of S.toSta h.1.1) (vis_of S.toSta h.1.2) h1 h2) fun env c => by simp only [evS] <;> rfl
        · cases h
    · cases h
  | .ret0, p, h, S => by
    simp only [okS] at h
    split at h
    · exact ps_eq ss_ret0 fun env c => by simp only [evS]
    · cases h
  | .ife t a b, p, h, S => by
    simp only [okS] at h
    split at h
    · simp only [Bool.and_eq_true] at h
      exact ps_eq (ss_if (sT t sc none _ h.1.1 X G S.toSta) (sSs a _ h.1.2 S) (sSs b _ h.2 S)) fun env c => by simp only [evS]
    · cases h
  | .fr t it b, p, h, S => by
    simp only [okS] at h
    split at h
    · simp only [Bool.and_eq_true, Bool.not_eq_true'] at h
      obtain ⟨⟨⟨⟨h1, h2⟩, h3⟩, h4⟩, h5⟩ := h
      have hi := sI it sc none _ _ h1 X G S.toSta
      rw [h2] at hi
      exact ps_eq (ss_for S.po S.calm hi (sTg S.toSta t _ h3) (sSs b _ h4 S) (no_set h5)) fun env c => by simp only [evS] <;> rfl
    · cases h
  | .fz l s, p, h, S => by
    simp only [okS] at h
    exact ps_eq (ss_fz (l := l) (sS s p h S)) fun env c => by simp only [evS]
  | .wh t b, p, h, S => by
    simp only [okS] at h
    split at h
    · simp only [Bool.and_eq_true] at h
      exact ps_eq (ss_while S.po (sT t sc none _ h.1 X G S.toSta) (sSs b _ h.2 S)) fun env c => by simp only [evS] <;> rfl
    · cases h
  | .rs cl, p, h, S => by
    simp only [okS] at h
    split at h
    · simp only [Bool.and_eq_true, decide_eq_true_eq] at h
      obtain ⟨C, bmB, B, nI, iI, F, q, gC, kC, r, hx⟩ := S.ens _ _ h.1.1
      exact ps_eq (ss_raise S.calm S.tk hx (L2N.pmk_own F q gC kC r (gl_of S.toSta h.1.2) (okN_d h.2).1)) fun env c => by simp only [evS]
    · cases h
  | .rse cl e, p, h, S => by
    simp only [okS] at h
    split at h
    · simp only [Bool.and_eq_true, decide_eq_true_eq, Bool.not_eq_true'] at h
      obtain ⟨⟨⟨⟨h1, h2⟩, h3⟩, h4⟩, h5⟩ := h
      obtain ⟨C, bmB, B, nI, iI, F, q, gC, kC, r, hx⟩ := S.ens _ _ h1
      exact ps_eq (ss_raise1 S.calm S.tk hx (pmk_one F q gC kC r (gl_of S.toSta h2) (sE e sc none _ h4 X G S.toSta) (star_cons (es := []) h5) (okN_d h3).1)) fun env c => by simp only [evS]
    · cases h
  | .ex e, p, h, S => by
    simp only [okS] at h
    split at h
    · simp only [Bool.and_eq_true] at h
      exact ps_eq (ss_ex (sE e sc none _ h.1 X G S.toSta) (sw_none h.2)) fun env c => by simp only [evS]
    · cases h
  | .aug i o e, p, h, S => by
    simp only [okS] at h
    split at h
    · simp only [Bool.and_eq_true] at h
      obtain ⟨⟨⟨h1, h2⟩, h3⟩, h4⟩ := h
      obtain ⟨l1, l2⟩ := loc_of S.toSta h2
      exact ps_eq (ss_aug (by rw [S.hN]; exact S.nd) (slot_of S.toSta h1) l1 l2 (sE e sc none _ h3 X G S.toSta) h4) fun env c => by simp only [evS] <;> rfl
    · cases h
  | .pass, p, h, S => by
    simp only [okS] at h
    split at h
    · exact ps_eq ss_pass fun env c => by simp only [evS]
    · exact ps_eq ss_doc fun env c => by simp only [evS]
    · cases h
  | .brk, p, h, S => by
    simp only [okS] at h
    split at h
    · exact ps_eq ss_brk fun env c => by simp only [evS]
    · cases h
  | .cont, p, h, S => by
    simp only [okS] at h
    split at h
    · exact ps_eq ss_cont fun env c => by simp only [evS]
    · cases h
theorem sSs : ∀ (s : List S) (ps : List Stmt), okSs k s sc ps = true → StaS k T cl n sc X G → PSs X ps (tS G (evSs T cl s))
  | [], ps, h, S => by
    simp only [okSs] at h
    cases ps with
    | nil => exact pss_imp sss_nil fun D σ H ⟨env, c, R, q⟩ => ⟨env, c, R, by simp only [evSs] at q; exact q⟩
    | cons _ _ => cases h
  | s :: r, ps, h, S => by
    cases ps with
    | nil => simp [okSs] at h
    | cons p ps =>
      simp only [okSs, Bool.and_eq_true] at h
      exact pss_imp (sss_cons (sS s p h.1 S) (sSs r ps h.2 S)) fun D σ H ⟨env, c, R, q⟩ => ⟨env, c, R, by simp only [evSs] at q; exact q⟩
end
end
end PX

/-! # PX: a lambda handed to a def that tries it -/
namespace PX
open PySem PySem.Spec PyProof.Rows
open L2 (V HO Hp upd SqT SqL Rd TE TT TA TS TI TG Cx PE PT PA PS PSs PI PG Inv upd_same upd_ne OpR CallR IxR RelV Vals Room Vis Gl Loc)

/-- the lambda's body: its errors go on as L2N has them -/
abbrev lamN (X : Cx) (B : Around) (fr : List PySem.Env) (t : Shared) (J : Hp) (W : L2.XK) (ls : Scope) (f c : Addr) : Cx :=
  (LamX.lamCx X B fr t J W ls f c).wish fun e t1 => wpAny (model X.prog X.w) (B.deeper (LamX.lamEnv X ls t.heap.objs.size f c)) (leaving (LamX.lamEnv X ls t.heap.objs.size f c) e) (fun _ t2 => L2N.CX X.prog X.w fr J t W e t2) (fun z t2 => L2N.CX X.prog X.w fr J t W z t2) t1
/-- the trying def's own context -/
abbrev tryX (X : Cx) (Ng : List Str) (x : Str) (sg : Scope) (g : Addr) (cdg : Value) (s : Shared) (H : Hp) : Cx := L2.cxOf C8.CX0 X.prog X.w X.K X.mg X.base Ng x sg g cdg X.A X.stack s H C8.E0
section
variable {X : Cx} {pins : List (Addr × Obj)} {σ : Sl} {H HZ : Hp} {s : Shared}
/-- the call within the try: the lambda's body runs in the maker's names -/
theorem act_n {Ng : List Str} {x a : Str} {sg ls : Scope} {g f c : Addr} {cdg pm ctv : Value} {params : Arguments} {body : Expr} {m i : Nat} {pn : List (Addr × Obj)} {xe : Value → Shared → Prop} {W : L2.WX} {E : L2.XK} {tb : TE} {p1 p2 : Pos}
    (I : Inv X pins σ H s) (L : LamX.LamS X.env.scope ls)
    (of_ : s.heap.get? f = some (PySem.W.kla_obj "<lambda>" (X.env.qual ++ "<lambda>") params body ls (L2.cloFrom X.env.cells ls.names []) pm c ctv)) (nf : H f = none) (nr : f ∉ L2.frs X.stack)
    (bind0 : bindArgs (PySem.W.kla_fn "<lambda>" (X.env.qual ++ "<lambda>") params body ls (L2.cloFrom X.env.cells ls.names []) pm (.ref c) ctv) ⟨[], []⟩ = pure [])
    (tk : L2N.Takes ((tryX X Ng x sg g cdg s H).tr pn xe) W) (EW : ∀ cls d τ J, E cls d J → W cls d τ J) (room : Room (m + 1) (X.A.deeper (envOfC x sg s.heap.objs.size g cdg)))
    (hb : ∀ (B : Around) (fr : List PySem.Env) (t : Shared) (J : Hp), Room m (B.deeper (LamX.lamEnv X ls t.heap.objs.size f c)) → PE (lamN X B fr t J E ls f c) body tb)
    (hN : Ng[i]? = some a) (hv : Vis sg a) (hd : (a == ("__debug__" : Str)) = false) (hcd : (a == ("__classdict__" : Str)) = false) :
    PE ((tryX X Ng x sg g cdg s H).tr pn xe) (.Call (.Name a p1) [] [] p2) (fun τ J Q => τ[i]? = some (some (.ref f)) ∧ J c = some (LamX.CodeO c (X.env.qual ++ "<lambda>")) ∧ tb σ J Q) := by
  refine ⟨fun pinz z τ J Q Iz ⟨slot, code, want⟩ => ?_⟩
  have name_ := (L2.pe_var (X := (tryX X Ng x sg g cdg s H).tr pn xe) (pos := p1) (i := i) hN hv hd hcd).run pinz z τ J (fun u J1 => u = .ref f ∧ J1 = J) Iz ⟨.ref f, slot, rfl, rfl⟩
  refine wpAny_Call_Name_kw (L2.thn name_ fun u z1 hz1 => ?_)
  obtain ⟨u1, J1, I1, ru, eu, eJ⟩ := hz1
  subst eu eJ
  cases (show u = Value.ref f from ru)
  have stands := I1.base.keep f _ of_ nf nr (fun q => nomatch (show f ∈ ([] : List Addr) from q))
  refine PySem.W.callWith_F0 ⟨_, _, _, _, stands⟩ ?_
  obtain ⟨⟨oc, vs, tk0, c1, c2, c3⟩, _, _⟩ := I1.hok c _ code
  have ran : codeAny (model X.prog X.w) (X.A.deeper (envOfC x sg s.heap.objs.size g cdg)) (.call (.ref f) ⟨[], []⟩) (L2.CR (L2N.CX X.prog X.w) (envOfC x sg s.heap.objs.size g cdg :: X.stack) X.prog X.w J1 z1 Q E) z1 := by
    refine PySem.W.kla_callFunE room.depth stands rfl L.co L.gen rfl ⟨c, oc, vs, tk0, rfl, c1, c2, c3⟩ ?_
    rw [bind0]
    refine wpAny_pure (wpAny_newFunctionEnv (fun y hy => (L.own y hy).2) (fun y hy => absurd hy List.not_mem_nil) (fun h1 ns1 same1 => ⟨I1.nolimit.fresh _ same1, ?_⟩) L.kind)
    have kept1 : ∀ b o, z1.heap.get? b = some o → h1.get? b = some o := fun b o e => same1.extBut b o (Nat.ne_of_lt (Heap.lt_size e)) (Heap.get?_push_of_some _ e)
    have inv1 := (LamX.lam_start2 (E := E) (f := f) (c' := c) (tk := z1.toks + ([] : List (Str × Value)).length) I L I1.env0 room.hd I1.base ns1 kept1).wish (lamN X (X.A.deeper (envOfC x sg s.heap.objs.size g cdg)) (envOfC x sg s.heap.objs.size g cdg :: X.stack) z1 J1 E ls f c).xe
    refine PySem.W.kla_codeExpr (wpAny_mono ((hb _ _ z1 J1 (room.deeper _)).run [] _ σ J1 Q inv1 want) (fun r z2 hr => ?_) fun e z2 he => he)
    obtain ⟨r1, J2, I2, rr, q2⟩ := hr
    exact ⟨r1, J2, I2.os, I2.bare, I2.base, I2.hok, rr, q2⟩
  refine wpAny_call (codeAny_mono ran fun r z2 hr => ?_)
  cases r with
  | ok fl => cases fl with
    | ret u => exact I1.after hr
    | next => exact (show False from hr).elim
    | brk => exact (show False from hr).elim
    | cont => exact (show False from hr).elim
  | error e => exact L2N.passes_call tk EW pinz τ J1 z1 e z2 I1 hr
/-- the trying def: what its body makes of the lambda's reading tl -/
def Gives (X : Cx) (Ng : List Str) (x : Str) (sg : Scope) (g : Addr) (cdg : Value) (bg : List Stmt) (a : Str) (q : Str) (Told : (L2.XK → Hp → L2.VK → Prop) → Hp → L2.VK → Prop) : Prop :=
  ∀ (f c : Addr) (s : Shared) (H : Hp) (Q : L2.VK) (tl : L2.XK → Hp → L2.VK → Prop),
    (∀ (W : L2.WX) (pn : List (Addr × Obj)) (xe : Value → Shared → Prop) (E : L2.XK) (p1 p2 : Pos), L2N.Takes ((tryX X Ng x sg g cdg s H).tr pn xe) W → (∀ cls d τ J, E cls d J → W cls d τ J) →
      PE ((tryX X Ng x sg g cdg s H).tr pn xe) (.Call (.Name a p1) [] [] p2) (fun τ J Q => τ[0]? = some (some (.ref f)) ∧ J c = some (LamX.CodeO c q) ∧ tl E J Q)) →
    H c = some (LamX.CodeO c q) → Told tl H Q →
    ∃ t, PSs (tryX X Ng x sg g cdg s H).nox bg t ∧ t { nx := fun _ J => Q .non J, rt := Q } (L2.start Ng [.ref f]) H
/-- x(lambda: body) -/
theorem lam_call {T : List (Addr × Str)} {Told : (L2.XK → Hp → L2.VK → Prop) → Hp → L2.VK → Prop} {x a : Str} {g c P : Addr} {m : Nat} {pg : Arguments} {bg : List Stmt} {sg ls : Scope} {kV doc pm cdv ct oc : Value} {an od : Option Addr} {osl : Array (Option Value)} {Ng : List Str}
    {params : Arguments} {body : Expr} {tb : L2.XK → TE} {p lpos pos : Pos} (hg : Gl X x) (hm : X.mg x = some (.ref g)) (hk : PySem.W.keepIn X.K (.ref g) = true)
    (lk : X.K.lookup g = some ⟨oc, od, .func (PySem.W.fnOf x x pg bg sg .none kV doc pm an cdv ct), osl⟩) (hcg : PySem.W.codeIn X.K cdv x = true) (hbd : L2.Binds X.K (PySem.W.fnOf x x pg bg sg .none kV doc pm an cdv ct) [a] []) (Sg : L2.FnScope Ng [a] sg) (hNg : Ng[0]? = some a) (hva : Vis sg a)
    (G : Gives X Ng x sg g cdv bg a (X.env.qual ++ "<lambda>") Told) (TB : LamX.TabB X.base X.mg c P) (hcode : X.env.code = .ref c) (inT : (P, X.env.qual ++ "<lambda>") ∈ T) (oneT : ∀ p ∈ T, p.1 = P → p.2 = X.env.qual ++ "<lambda>") (room : Room (m + 2) X.A) (L : LamX.LamS X.env.scope ls)
    (nodef : defaultsOf params X.env = ([], []))
    (bind0 : ∀ (q : Str) (cl : List (Str × Addr)) (pm cv ctv : Value), bindArgs (PySem.W.kla_fn "<lambda>" q params body ls cl pm cv ctv) ⟨[], []⟩ = pure [])
    (hb : ∀ (B : Around) (fr : List PySem.Env) (t : Shared) (J : Hp) (E : L2.XK) (f c' : Addr), Room m (B.deeper (LamX.lamEnv X ls t.heap.objs.size f c')) → PE (lamN X B fr t J E ls f c') body (tb E))
    (hdb : (x == ("__debug__" : Str)) = false) (hd : (a == ("__debug__" : Str)) = false) (hcd : (a == ("__classdict__" : Str)) = false) :
    PE X (.Call (.Name x p) [.Lambda params body ls lpos] [] pos) (fun σ H Q => LamX.Tabs T H ∧ ∀ H1, LamX.ExtN H H1 → LamX.Tabs T H1 → Told (fun E J R => tb E σ J R) H1 Q) := by
  refine ⟨fun pins s σ H Q I ⟨tabs, want⟩ => ?_⟩
  refine wpAny_Call_Name_kw (L2.ld_glob I hg hm (PySem.W.callWith_K (h₀ := X.base) I.ok.mod.kin hk ?_ (by rfl) (by rfl)) hdb)
  have made := LamX.lam_make2 (E := X.xe) (pos := lpos) (params := params) (body := body) (Q := fun u t => wpAny (model X.prog X.w) X.A (spliced (backTo pos (starEach ([] : List Expr) X.env))) (fun us t1 => X.K.In t1.heap ∧ wpAny (model X.prog X.w) X.A (call (.ref g) (u :: us)) (L2.EP X pins σ Q) X.xe t1) X.xe t) I TB hcode inT oneT tabs nodef (L.has I.ok) ?_
  · exact Calls.spliced_cons made
  · intro f c' pm' ctv H1 t I1 ext tabs1 of_ nf nr co
    refine Calls.spliced_nil ⟨I1.kIn, ?_⟩
    have told : codeAny (model X.prog X.w) X.A (.call (.ref g) ⟨[.ref f], []⟩) (L2.CR C8.CX0 X.stack X.prog X.w H1 t Q C8.E0) t := by
      refine LamX.run_ofS (ps := [a]) (us := [.ref f]) (vs := [.ref f]) lk hcg Sg room I1.env0 (hbd t [.ref f] I1.kIn rfl) (.cons rfl .nil) rfl fun room1 => ?_
      obtain ⟨t1, h1, h2⟩ := G f c' t H1 Q (fun E J R => tb E σ J R) (fun W pn xe E p1 p2 tk EW => act_n (i := 0) I1 L of_ nf nr (bind0 _ _ _ _ _) tk EW room1 (fun B fr t J room2 => hb B fr t J E f c' room2) hNg hva hd hcd) co (want H1 ext tabs1)
      exact ⟨t1, h1.nox, h2⟩
    refine wpAny_call (codeAny_mono told fun r t2 hr => ?_)
    cases r with
    | ok fl => cases fl with
      | ret u => exact I1.after hr
      | next => exact (show False from hr).elim
      | brk => exact (show False from hr).elim
      | cont => exact (show False from hr).elim
    | error e => exact (show False from hr).elim
end
end PX

/-! # PX: what a trying def tells of a call -/
namespace PX
open PySem PySem.Spec PyProof.Rows
open L2 (V HO Hp upd SqT SqL Rd TE TT TA TS TI TG Cx PE PT PA PS PSs PI PG Inv upd_same upd_ne OpR CallR IxR RelV Vals Room Vis Gl Loc)
/-- scalars -/
def scV : D → Option V
  | .non => some .non
  | .bl b => some (.bl b)
  | .int i => some (.int i)
  | .str x => some (.str x)
  | _ => none
theorem scV_rp {d : D} {v : V} (h : scV d = some v) (K : PySem.W.Frag) (fa : Nat → Option Addr) (ca : Option Addr) (A : Addr → Prop) (H : Hp) : Rp K fa ca A H v d := by
  cases d <;> first | (cases h; done) | (cases h; constructor)
theorem scV_nown {d : D} {v : V} (h : scV d = some v) : ∀ ds, d ≠ .own ds := fun ds z => by subst z; cases h
/-- all stays -/
def Grow (H H' : Hp) : Prop := ∀ b o, H b = some o → H' b = some o
theorem Grow.inh {G : Gx} {c : C} {H H' : Hp} (I : Inh G c H) (g : Grow H H') : Inh G c H' := by
  refine I.go (fun b o h _ _ => g b o h) ?_ (I.tab.ext g)
  have q := I.cup
  generalize G.ca = ca at q ⊢
  cases ca with
  | none => cases c with
    | none => trivial
    | some x => exact q
  | some a => cases c with
    | none => exact q
    | some x => exact g _ _ q
/-- what comes of an error -/
def badE (S : Gs) (F : Flt) (Q : L2.VK) : L2.XK := fun cls dd H => ∃ x d v, XRp S x cls dd H ∧ F.bad x = some d ∧ scV d = some v ∧ ∀ H', Grow H H' → Q v H'
/-- what is made of a lambda's reading -/
def toldF (S : Gs) (F : Flt) : (L2.XK → Hp → L2.VK → Prop) → Hp → L2.VK → Prop := fun tl H Q => tl (badE S F Q) H fun _ H1 => ∃ v, scV F.good = some v ∧ Q v H1
/-- a trying def of the program -/
structure FltF (K : PySem.W.Frag) (mg : Str → Option Value) (S : Gs) (x : Str) (F : Flt) : Prop where
  good : ∃ v, scV F.good = some v
  bad : ∀ x d, F.bad x = some d → ∃ v, scV d = some v
  ex : ∃ (g : Addr) (a : Str) (pg : Arguments) (bg : List Stmt) (sg : Scope) (kV doc pm cdv ct oc : Value) (an od : Option Addr) (osl : Array (Option Value)) (Ng : List Str),
    mg x = some (.ref g) ∧ PySem.W.keepIn K (.ref g) = true ∧ K.lookup g = some ⟨oc, od, .func (PySem.W.fnOf x x pg bg sg .none kV doc pm an cdv ct), osl⟩ ∧ PySem.W.codeIn K cdv x = true ∧
    L2.Binds K (PySem.W.fnOf x x pg bg sg .none kV doc pm an cdv ct) [a] [] ∧ L2.FnScope Ng [a] sg ∧ Ng[0]? = some a ∧ Vis sg a ∧ okN a = true ∧
    ∀ (X : Cx) (q : Str), X.K = K → X.mg = mg → Gives X Ng x sg g cdv bg a q (toldF S F)
def noPar (p : Arguments) : Bool := p.posonlyargs.isEmpty && p.args.isEmpty && p.vararg.isNone && p.kwonlyargs.isEmpty && p.kw_defaults.isEmpty && p.kwarg.isNone && p.defaults.isEmpty
theorem noPar_eq {p : Arguments} (h : noPar p = true) : p = ⟨[], [], none, [], [], none, []⟩ := by
  obtain ⟨a, b, c, d, e, f, g⟩ := p
  unfold noPar at h
  simp only [Bool.and_eq_true, List.isEmpty_iff, Option.isNone_iff_eq_none] at h
  obtain ⟨⟨⟨⟨⟨⟨rfl, rfl⟩, rfl⟩, rfl⟩, rfl⟩, rfl⟩, rfl⟩ := h
  rfl
/-- no names -/
def noSc : Scope := ⟨.function, [], false, false, []⟩
/-- does the text hand such a lambda to the trying def fl f? -/
def fltB (k : Ck) (fl : List Str) : Nat → E → Scope → Expr → Bool := fun f a sc p => match p with
  | .Call (.Name x _) [.Lambda params body ls _] [] _ => decide (fl[f]? = some x) && glB sc x && okN x && LamX.lamSB sc ls && noPar params && okE { k with flq := fun _ _ _ _ => false } a ls (some noSc) body && nbE a
  | _ => false
section
variable {P : Program} {w : World} {K : PySem.W.Frag} {mg : Str → Option Value} {base : Heap} {S : Gs} {k : Ck} {T : Tab} {cl : Cl} {fl : List Str}
/-- what a body that makes lambdas is asked for -/
structure LamF (X : Cx) (S : Gs) (n : Nat) : Prop where
  room : Room (n + 2) X.A
  tab : ∃ c P, LamX.TabB X.base X.mg c P ∧ X.env.code = .ref c ∧ (P, X.env.qual ++ "<lambda>") ∈ S.T ∧ ∀ p ∈ S.T, p.1 = P → p.2 = X.env.qual ++ "<lambda>"
theorem LamF.like {X Y : Cx} {n : Nat} (h : LamF X S n) (l : Like X Y) : LamF Y S n := by
  obtain ⟨r, c, P, h1, h2, h3, h4⟩ := h
  refine ⟨by rw [l.A]; exact r, c, P, by rw [l.base, l.mg]; exact h1, l.code.trans h2, by rw [l.qual]; exact h3, by rw [l.qual]; exact h4⟩
theorem ownless_get {env : Env} {i : Nat} {d : D} (h : (ownless env)[i]? = some (some d)) : env[i]? = some (some d) ∧ ∀ ds, d ≠ .own ds := by
  unfold ownless at h
  rw [List.getElem?_map] at h
  cases e : env[i]? with
  | none => rw [e] at h; cases h
  | some o =>
    rw [e] at h
    cases o with
    | none => cases h
    | some d' =>
      cases d' <;> first | (cases h; done) | (cases h; exact ⟨rfl, fun ds z => by cases z⟩)
/-- f(lambda: a) -/
theorem flt_ok {Y : Cx} {n : Nat} {f : Nat} {a : E} {p : Expr} {nb : Bool} {G' : Gx} (hN : Y.N = k.N) (nd : k.N.Nodup) (hK : Y.K = S.K) (hcal : ∀ (B : Around) (fr : List PySem.Env) (t : Shared) (J : Hp) (E : L2.XK) (ls : Scope) (f' c' : Addr) (ca : Option Addr) (O : Addr → Prop) (H0 : Hp), Room n (B.deeper (LamX.lamEnv Y ls t.heap.objs.size f' c')) →
      Sta { k with flq := fun _ _ _ _ => false } T cl n ls (some noSc) (lamN Y B fr t J E ls f' c') ⟨S, ca, O, H0, E⟩)
    (FF : ∀ x, fl[f]? = some x → ∃ F, T.flts[f]? = some F ∧ FltF Y.K Y.mg S x F) (LF : LamF Y S n) (hG : G'.toGs = S) (h : fltB k fl f a Y.env.scope p = true) : PE Y p (tEv G' nb (ev T cl (.flt f a))) := by
  unfold fltB at h
  split at h
  case h_2 => cases h
  rename_i x px params body ls lp pos
  simp only [Bool.and_eq_true, decide_eq_true_eq] at h
  obtain ⟨⟨⟨⟨⟨⟨h1, h2⟩, h3⟩, h4⟩, h5⟩, h6⟩, h7⟩ := h
  have hpar := noPar_eq h5
  subst hpar
  obtain ⟨F, hF, FF⟩ := FF x h1
  obtain ⟨g, an, pg, bg, sg, kV, doc, pm, cdv, ct, oc, an', od, osl, Ng, e1, e2, e3, e4, e5, e6, e7, e8, e9, e10⟩ := FF.ex
  obtain ⟨c, P, t1, t2, t3, t4⟩ := LF.tab
  have gl : Gl Y x := by
    unfold glB at h2
    exact (of_decide_eq_true h2 : Y.env.scope.names.lookup x = some .globalImplicit)
  have call := lam_call (T := S.T) (a := an) (m := n) (lpos := lp) (p := px) (pos := pos) (params := ⟨[], [], none, [], [], none, []⟩) (tb := fun E σ J R => ∃ (ca : Option Addr) (O : Addr → Prop) (H0 : Hp), tEv ⟨S, ca, O, H0, E⟩ true (ev T cl a) σ J R)
    gl e1 e2 e3 e4 e5 e6 e7 e8 (e10 Y _ rfl rfl) t1 t2 t3 t4 LF.room (LamX.lamS_by h4) rfl (fun _ _ _ _ _ => rfl)
    (body := body) (fun B fr t J E f' c' r => ⟨fun pins s σ H Q I ⟨ca, O, H0, q⟩ => by
      have e := sE a ls (some noSc) body h6 _ _ (hcal B fr t J E ls f' c' ca O H0 r)
      rw [h7] at e
      exact e.run pins s σ H Q I q⟩) (okN_d h3).1 (okN_d e9).1 (okN_d e9).2
  refine pe_imp call fun σ H Q ⟨env, c0, R, q⟩ => ?_
  have hT : G'.T = S.T := congrArg Gs.T hG
  have hKf : G'.K = S.K := congrArg Gs.K hG
  refine ⟨by rw [← hT]; exact R.inh.tab, fun H1 ext tab1 => ?_⟩
  have cup1 : CupOk G'.ca c0 H1 := by
    have z := R.inh.cup
    generalize G'.ca = ca at z ⊢
    cases ca with
    | none => cases c0 with
      | none => trivial
      | some y => exact z
    | some y => cases c0 with
      | none => exact z
      | some y2 => exact ext _ _ z lst_nt
  have s1 : Stp G'.ca H H1 := fun b o hb ht _ => ext b o hb ht
  have R1 : Rel G' env c0 σ H1 := R.stp s1 (R.inh.go s1 cup1 (by rw [hT]; exact tab1))
  simp only [ev, hF] at q
  have hG2 : ∀ E, (⟨S, G'.ca, Av G' env σ, H1, E⟩ : Gx) = { G' with O := Av G' env σ, H0 := H1, E := E } := fun E => by
    cases G'; cases hG; rfl
  have RL : Rel (⟨S, G'.ca, Av G' env σ, H1, badE S F Q⟩ : Gx) (ownless env) c0 σ H1 := by
    have nown : ∀ (i : Nat) (ds : List D), (ownless env)[i]? ≠ some (some (.own ds)) := fun i ds z => (ownless_get z).2 ds rfl
    rw [hG2]
    refine ⟨⟨R1.inh.cup, R1.inh.tab, Stp.refl _ _, fun b e => (R1.w b e).1, Av.lst R1⟩, by simpa [ownless] using R1.len, fun i d e n' => ?_, fun i ds e => absurd e (nown i ds), fun i j ds es b e => absurd e (nown i ds)⟩
    obtain ⟨v, q1, q2⟩ := R1.val i d (ownless_get e).1 n'
    refine ⟨v, q1, q2.anti fun b z => ?_⟩
    rcases z with z | ⟨j, ds, z, _⟩
    · exact z
    · exact absurd z (nown j ds)
  -- back from the lambda's end
  have back : ∀ {c2 : C} {H2 : Hp} {E : L2.XK}, Inh (⟨S, G'.ca, Av G' env σ, H1, E⟩ : Gx) c2 H2 → Rel G' env c2 σ H2 := fun {c2 H2 E} I2 => by
    rw [hG2] at I2
    exact R1.stp I2.stp (R1.inh.go I2.stp I2.cup I2.tab)
  refine ⟨G'.ca, Av G' env σ, H1, ownless env, c0, RL, ?_⟩
  generalize ev T cl a (ownless env) c0 = r at q ⊢
  cases r with
  | no => exact q
  | ok d c2 =>
    intro v H2 R2 s2 _ _ _
    obtain ⟨gv, hgv⟩ := FF.good
    have q : Post G' nb env σ H Q (.ok F.good c2) := q
    have R2' := back R2.inh
    exact ⟨gv, hgv, (q.back R2' (s1.trans (by rw [hG2] at R2; exact R2.inh.stp))).give R2' (scV_rp hgv _ _ _ _ _) (scV_nown hgv)⟩
  | ex y c2 =>
    intro cls dd H2 I2 hx
    have q : Post G' nb env σ H Q (lift (F.bad y) c2) := q
    obtain ⟨d, hd, q2⟩ := post_lift q
    obtain ⟨v, hv⟩ := FF.bad y d hd
    refine ⟨y, d, v, hx, hd, hv, fun H3 gr => ?_⟩
    have I3 := Grow.inh I2 gr
    have R3 := back I3
    exact (q2.back R3 (s1.trans (by rw [hG2] at I3; exact I3.stp))).give R3 (scV_rp hv _ _ _ _ _) (scV_nown hv)
end
end PX

/-! # PX: defs -/
namespace PX
open PySem PySem.Spec PyProof.Rows
open L2 (V HO Hp upd SqT SqL Rd TE TT TA TS TI TG Cx PE PT PA PS PSs PI PG Inv upd_same upd_ne OpR CallR IxR RelV Vals Room Vis Gl Loc)
def noFlq : Nat → E → Scope → Expr → Bool := fun _ _ _ _ => false
/-- a def of the program, as it stands and as my tree has it -/
def DefGoal (K : PySem.W.Frag) (mg : Str → Option Value) (base : Heap) (S : Gs) (k : Ck) (fl : List Str) (T : Tab) (Ns : Nat → List Str) (j : Nat) (x : Str) : Prop := ∃ (a : Addr) (fd : FuncData) (st : Stmt) (f : Fn) (oc : Value) (od : Option Addr) (kV doc pm : Value) (an : Option Addr) (cdv ct : Value) (osl : Array (Option Value)) (fq : Nat → E → Scope → Expr → Bool),
    S.fa j = some a ∧ mg x = some (.ref a) ∧ T.funs[j]? = some f ∧
    fd = PySem.W.fnOf x x (L2.defArgs st) (L2.defBody st) (L2.defScope st) .none kV doc pm an cdv ct ∧ K.lookup a = some ⟨oc, od, .func fd, osl⟩ ∧ PySem.W.codeIn K cdv x = true ∧ PySem.W.keepIn K (.ref a) = true ∧ L2.Binds K fd ((Ns j).take f.np) [] ∧
    L2.FnScope (Ns j) ((Ns j).take f.np) (L2.defScope st) ∧ f.np ≤ (Ns j).length ∧ (Ns j).length = f.ns ∧ okSs { k with N := Ns j, flq := fq } f.body (L2.defScope st) (L2.defBody st) = true ∧
    (fq = noFlq ∨ (fq = fltB { k with N := Ns j } fl ∧ ∃ c P, LamX.TabB base mg c P ∧ cdv = .ref c ∧ (P, (x ++ ".<locals>.") ++ "<lambda>") ∈ S.T ∧ ∀ p ∈ S.T, p.1 = P → p.2 = (x ++ ".<locals>.") ++ "<lambda>"))
/-- what the program's top has left, against my tables -/
structure Mdl (K : PySem.W.Frag) (mg : Str → Option Value) (base : Heap) (S : Gs) (k : Ck) (fl : List Str) (T : Tab) (Ns : Nat → List Str) : Prop where
  hK : S.K = K
  defs : ∀ (j : Nat) (x : Str), k.fn[j]? = some x → DefGoal K mg base S k fl T Ns j x
  fnv : ∀ (j : Nat) (a : Addr), S.fa j = some a → ∃ x, k.fn[j]? = some x
  cns : ∀ (j : Nat) (x : Str), k.cn[j]? = some x → ∃ u v d, mg x = some u ∧ RelV v u ∧ T.consts[j]? = some d ∧ (∀ A ca H, Rp K S.fa ca A H v d) ∧ ∀ ds, d ≠ .own ds
  blt : ∀ x ∈ bnames, mg x = none
  ens : ∀ (j : Nat) (x : Str), k.en[j]? = some x → ∃ (C : Addr) (bmB : List Value) (B newId initId : String), ExcBaseFacts B newId initId bmB ∧ PySem.W.excIn K C bmB newId = true ∧ mg x = some (.ref C) ∧ PySem.W.keepIn K (.ref C) = true ∧
    PySem.W.subIn K (.ref C) (.type "BaseException") = some true ∧ PySem.W.typeIn K (.ref C) = some (.type "type") ∧ S.xa j = some (.ref C)
  flt : ∀ (f : Nat) (x : Str), fl[f]? = some x → ∃ F, T.flts[f]? = some F ∧ FltF K mg S x F

section
variable {P : Program} {w : World} {K : PySem.W.Frag} {mg : Str → Option Value} {base : Heap} {S : Gs} {k : Ck} {fl : List Str} {T : Tab} {Ns : Nat → List Str}
theorem rps_ds {K : PySem.W.Frag} {fa ca A H} {vs : List V} {ds : List D} (r : Rps K fa ca A H vs ds) (i : Nat) {d : D} (e : ds[i]? = some d) : ∃ v, vs[i]? = some v ∧ Rp K fa ca A H v d := r.get e
theorem entry_get {f : Fn} {ds : List D} {i : Nat} {d : D} (h : (entry f ds)[i]? = some (some d)) : ds[i]? = some d := by
  unfold entry at h
  by_cases hi : i < ds.length
  · rw [List.getElem?_append_left (by simpa using hi), List.getElem?_map] at h
    cases e : ds[i]? with
    | none => rw [e] at h; simp at h
    | some x =>
      rw [e] at h
      simpa using h
  · rw [List.getElem?_append_right (by simp; omega)] at h
    obtain ⟨h1, h2⟩ := List.getElem?_eq_some_iff.mp h
    rw [List.getElem_replicate] at h2
    cases h2
/-- the state at a def's entry -/
theorem entry_rel {G : Gx} {c : C} {H : Hp} {f : Fn} {N : List Str} {ds : List D} {vs : List V} (I : Inh G c H) (hO : ∀ d ∈ ds, ∀ es, d ≠ .own es) (r : Rps G.K G.fa G.ca G.O H vs ds) (hn : N.length = f.ns) : Rel G (entry f ds) c (L2.start N vs) H := by
  have nown : ∀ (i : Nat) (es : List D), (entry f ds)[i]? ≠ some (some (.own es)) := fun i es z => hO _ (List.mem_of_getElem? (entry_get z)) es rfl
  have hA : ∀ b, Av G (entry f ds) (L2.start N vs) b → G.O b := fun b z => by
    rcases z with z | ⟨i, es, e, _⟩
    · exact z
    · exact absurd e (nown i es)
  refine ⟨I, by simp [entry, L2.start, r.length, hn], fun i d e n => ?_, fun i es e => absurd e (nown i es), fun i j es _ a e => absurd e (nown i es)⟩
  obtain ⟨v, h1, h2⟩ := r.get (entry_get e)
  refine ⟨v, ?_, h2.anti hA⟩
  have hi : i < vs.length := (List.getElem?_eq_some_iff.mp h1).1
  unfold L2.start
  rw [List.getElem?_append_left (by simpa using hi), List.getElem?_map, h1]
  rfl
/-- what a def's end asks, as its body has it -/
theorem post_out {G : Gx} {env : Env} {σ : Sl} {Q : V → Hp → Prop} {r : RS} (h : FPost G G.H0 Q r.out) : PostS G env σ G.H0 { nx := fun _ H' => Q .non H', rt := Q } r := by
  cases r with
  | no => exact h
  | ex x c => exact h
  | ok fl e c => cases fl with
    | nx => exact fun σ' H' R' _ => h .non H' R'.inh .non fun _ _ z => by cases z
    | bk => exact h.elim
    | ct => exact h.elim
    | rt d => exact fun v H' I' rp fr => h v H' I' rp fr
theorem run_no {n j : Nat} {f : Fn} (e : T.funs[j]? = some f) {ds : List D} {c : C} (h : ds.length ≠ f.np) : run T n j ds c = .no := by
  cases n with
  | zero => rfl
  | succ n =>
    show callBy T (run T n) j ds c = .no
    unfold callBy
    rw [e]
    exact if_neg h
theorem sp_len {np : Nat} {f : List D → C → R D} {ps : List Str} (hp : ps.length = np) : ∀ vs H Q E, spF S np f vs H Q E → vs.length = ps.length := fun vs H Q E ⟨O, ca, ds, c, h1, _, _, h2, _⟩ => by
  rw [h2.length, h1, hp]
/-- a def at the depth n, in whatever context of the program -/
def DefI (P : Program) (w : World) (K : PySem.W.Frag) (mg : Str → Option Value) (base : Heap) (S : Gs) (n : Nat) (j : Nat) (y : Str) (f : List D → C → R D) : Prop :=
  ∃ (b : Addr) (fd : FuncData) (ps : List Str), S.fa j = some b ∧ mg y = some (.ref b) ∧ PySem.W.keepIn K (.ref b) = true ∧ L2.Binds K fd ps [] ∧ L2.FnOk P w K mg base (L2N.CX P w) n b fd ps (spF S ps.length f) ∧ ∀ ds c, ds.length ≠ ps.length → f ds c = .no
theorem fni_of {X : Cx} {n j : Nat} {y : Str} {f : List D → C → R D} (h1 : X.prog = P) (h2 : X.w = w) (h3 : X.K = K) (h4 : X.mg = mg) (h5 : X.base = base) (F : DefI P w K mg base S n j y f) : FnI S X n j y f := ⟨by
  rw [h1, h2, h3, h4, h5]; exact F⟩
/-- the context of a body is as my rules ask -/
theorem sta_any (M : Mdl K mg base S k fl T Ns) {X : Cx} {G : Gx} {n m : Nat} {N : List Str} {sc : Scope} {fs : Option Scope} {fq : Nat → E → Scope → Expr → Bool} (h1 : X.prog = P) (h2 : X.w = w) (h3 : X.K = K) (h4 : X.mg = mg) (h5 : X.base = base) (hN : X.N = N) (nd : N.Nodup) (hsc : X.env.scope = sc) (hcal : X.calm = true) (hr : Room n X.A)
    (tk : L2N.Takes X (fun cls d _ H => G.E cls d H)) (hG : G.toGs = S) (hfn : ∀ x, fnB fs x = true → X.fn x = true) (F : ∀ (j : Nat) (y : Str), k.fn[j]? = some y → DefI P w K mg base S n j y (run T m j))
    (hflt : ∀ (Y : Cx), Like X Y → ∀ (f : Nat) (a : E) (p : Expr) (nb : Bool) (G' : Gx), G'.toGs = G.toGs → fq f a Y.env.scope p = true → PE Y p (tEv G' nb (ev T (run T m) (.flt f a)))) :
    Sta { k with N := N, flq := fq } T (run T m) n sc fs X G where
  hN := hN
  nd := nd
  hsc := hsc
  calm := hcal
  hK := by rw [h3, ← M.hK, ← hG]
  room := hr
  tk := tk
  fns := fun j y h => by rw [hG]; exact fni_of h1 h2 h3 h4 h5 (F j y h)
  fnv := fun j b h => by
    have h : S.fa j = some b := by rw [← hG]; exact h
    obtain ⟨y, e⟩ := M.fnv j b h
    exact ⟨y, by rw [hG]; exact fni_of h1 h2 h3 h4 h5 (F j y e)⟩
  cns := fun j y h => by
    obtain ⟨u, v, d, e1, e2, e3, e4, e5⟩ := M.cns j y h
    refine ⟨u, v, d, by rw [h4]; exact e1, e2, e3, ?_, e5⟩
    have hk := M.hK
    subst hk
    subst hG
    exact e4
  blt := fun x hx => by rw [h4]; exact M.blt x hx
  hfn := hfn
  flt := hflt
/-- THE DEFS: each does what its tree says -/
theorem defs_ok (M : Mdl K mg base S k fl T Ns) : ∀ (m : Nat) (j : Nat) (y : Str), k.fn[j]? = some y → DefI P w K mg base S (3 * m) j y (run T m j) := by
  intro m
  induction m with
  | zero =>
    intro j y h
    obtain ⟨a, fd, st, f, oc, od, kV, doc, pm, an, cdv, ct, osl, fq, h1, h2, h3, hfd, lk, hcd, kp, B, Sc, hp, hn, ok, fqs⟩ := M.defs j y h
    refine ⟨a, fd, _, h1, h2, kp, B, ⟨sp_len rfl, fun A outer s H args us vs Q E _ _ _ _ z => ?_⟩, fun ds c q => rfl⟩
    obtain ⟨O, ca, ds, c, _, _, _, _, z⟩ := z
    exact z.elim
  | succ m ih =>
    intro j y h
    obtain ⟨a, fd, st, f, oc, od, kV, doc, pm, an, cdv, ct, osl, fq, h1, h2, h3, hfd, lk, hcd, kp, B, Sc, hp, hn, ok, fqs⟩ := M.defs j y h
    have hl : ((Ns j).take f.np).length = f.np := by rw [List.length_take]; omega
    refine ⟨a, fd, _, h1, h2, kp, B, ?_, fun ds c q => run_no h3 (by rw [← hl]; exact q)⟩
    subst hfd
    show L2.FnOk P w K mg base (L2N.CX P w) (3 * m + 2 + 1) a _ _ _
    refine L2.fn_of lk hcd Sc (sp_len rfl) fun A outer s H vs Q E hr hsp => ?_
    obtain ⟨O, ca, ds, c, hlen, hO, I, rp, hpost⟩ := hsp
    have SS : StaS { k with N := Ns j, flq := fq } T (run T m) (3 * m) (L2.defScope st) (L2.cxOf (L2N.CX P w) P w K mg base (Ns j) y (L2.defScope st) a cdv A outer s H E) ⟨S, ca, O, H, E⟩ := by
      refine { toSta := sta_any M rfl rfl rfl rfl rfl rfl Sc.nd rfl rfl (hr.mono (by omega)) (L2N.takes_of rfl rfl rfl rfl) rfl (fun _ _ => rfl) ih ?_, kind := Sc.kind, po := L2.passes_of rfl, ens := fun i z q => ?_ }
      · intro Y hY f' e p nb G' hG' hq
        rcases fqs with rfl | ⟨rfl, c0, P0, t1, t2, t3, t4⟩
        · cases hq
        · have LF : LamF Y S (3 * m) := LamF.like (X := L2.cxOf (L2N.CX P w) P w K mg base (Ns j) y (L2.defScope st) a cdv A outer s H E) ⟨hr, c0, P0, t1, t2, t3, t4⟩ hY
          refine flt_ok (k := { k with N := Ns j }) (fl := fl) hY.N Sc.nd (hY.K.trans M.hK.symm) (fun B fr t J E' ls f2 c2 ca' O' H0' hr2 => ?_) (fun x hx => ?_) LF hG' hq
          · exact sta_any M (X := lamN Y B fr t J E' ls f2 c2) hY.prog hY.w hY.K hY.mg hY.base hY.N Sc.nd rfl rfl hr2 (L2N.takes_of rfl rfl rfl rfl) rfl (fun x hx => by
              have z : (List.lookup x ([] : List (Str × NameKind)) == some .cell) = true := hx
              cases z) ih (fun _ _ _ _ _ _ _ _ z => by cases z)
          · obtain ⟨F, q1, q2⟩ := M.flt f' x hx
            refine ⟨F, q1, ?_⟩
            rw [show Y.K = K from hY.K, show Y.mg = mg from hY.mg]
            exact q2
      · obtain ⟨C, bmB, B', nI, iI, F, q1, g, kp', sb, ty, hx⟩ := M.ens i z q
        exact ⟨C, bmB, B', nI, iI, F, q1, g, kp', L2.raises_own sb ty, hx⟩
    refine ⟨_, sSs f.body _ ok SS, entry f ds, c, entry_rel I hO rp hn, ?_⟩
    have hq : FPost ⟨S, ca, O, H, E⟩ H Q ((evSs T (run T m) f.body (entry f ds) c).out) := by
      have hpost : FPost ⟨S, ca, O, H, E⟩ H Q (callBy T (run T m) j ds c) := hpost
      unfold callBy at hpost
      rw [h3] at hpost
      dsimp only at hpost
      rw [if_pos (by rw [hlen, hl])] at hpost
      exact hpost
    exact post_out hq
end
end PX

/-! # PX: the law itself, the end -/
namespace PX
open PySem PySem.Spec PyProof.Rows
open L2 (V HO Hp upd SqT SqL Rd TE TT TA TS TI TG Cx PE PT PA PS PSs PI PG Inv upd_same upd_ne OpR CallR IxR RelV Vals Room Vis Gl Loc)
/-- the shared list is at a from now on -/
def Gx.pour (G : Gx) (a : Addr) : Gx := { G with ca := some a, O := fun b => G.O b ∨ b = a }
section
variable {K : PySem.W.Frag} {fa : Nat → Option Addr} {H : Hp}
mutual
theorem Rp.noca {ca : Option Addr} {A : Addr → Prop} : ∀ {v : V} {d : D}, Rp K fa none A H v d → Rp K fa ca A H v d
  | _, _, .non => .non
  | _, _, .bl b => .bl b
  | _, _, .int i => .int i
  | _, _, .str x => .str x
  | _, _, .tup q r => .tup q (Rps.noca r)
  | _, _, .lst q n r => .lst q n (Rps.noca r)
  | _, _, .own q n r => .own q n (Rps.noca r)
  | _, _, .scr q => .scr q
  | _, _, .cup q => nomatch q
  | _, _, .fn q => .fn q
theorem Rps.noca {ca : Option Addr} {A : Addr → Prop} : ∀ {vs : List V} {ds : List D}, Rps K fa none A H vs ds → Rps K fa ca A H vs ds
  | _, _, .nil => .nil
  | _, _, .cons r t => .cons (Rp.noca r) (Rps.noca t)
end
end
section
variable {G : Gx} {env : Env} {c : C} {σ : Sl} {H : Hp}
theorem Rel.pour (R : Rel G env none σ H) (hca : G.ca = none) {i : Nat} {p q : Int} (e : env[i]? = some (some (.own [.int p, .int q]))) : ∃ a, Rel (G.pour a) (env.set i (some .cup)) (some (p, q)) σ H := by
  obtain ⟨a, vs, h1, h2, h3, h4, h5⟩ := R.own i _ e
  have hv : vs = [.int p, .int q] := by
    cases h5 with
    | cons r t => cases r; cases t with
      | cons r t => cases r; cases t; rfl
  subst hv
  have aA : Av G env σ a := .inr ⟨i, _, e, h1⟩
  have sub : ∀ b, Av (G.pour a) (env.set i (some .cup)) σ b → Av G env σ b := fun b z => by
    rcases z with (z | z) | ⟨j, ds, e1, e2⟩
    · exact .inl z
    · rw [z]; exact aA
    · rcases get_set e1 with ⟨_, z⟩ | ⟨_, e1⟩
      · cases z
      · exact .inr ⟨j, ds, e1, e2⟩
  have conv : ∀ {v d}, Rp G.K G.fa G.ca (Av G env σ) H v d → Rp (G.pour a).K (G.pour a).fa (G.pour a).ca (Av (G.pour a) (env.set i (some .cup)) σ) H v d := fun {v d} r => by
    rw [hca] at r
    exact (r.anti sub).noca
  have convs : ∀ {v d}, Rps G.K G.fa G.ca (Av G env σ) H v d → Rps (G.pour a).K (G.pour a).fa (G.pour a).ca (Av (G.pour a) (env.set i (some .cup)) σ) H v d := fun {v d} r => by
    rw [hca] at r
    exact (r.anti sub).noca
  refine ⟨a, ⟨⟨h2, R.inh.tab, fun b o hb ht _ => R.inh.stp b o hb ht (by rw [hca]; intro z; cases z), fun b z => .inr (Option.some.inj z).symm, fun b z => ?_⟩, by simpa using R.len, fun j d e' n' => ?_, fun j ds e' => ?_, fun j l ds es b e1 e2 e3 e4 => ?_⟩⟩
  · rcases z with z | z
    · exact R.inh.ol b z
    · rw [z]; exact ⟨_, h2⟩
  · rcases get_set e' with ⟨hj, z⟩ | ⟨hj, e'⟩
    · subst hj; cases z
      exact ⟨.ref a, h1, .cup rfl⟩
    · obtain ⟨v, q1, q2⟩ := R.val j d e' n'
      exact ⟨v, q1, conv q2⟩
  · rcases get_set e' with ⟨hj, z⟩ | ⟨hj, e'⟩
    · cases z
    · obtain ⟨b, ws, q1, q2, q3, q4, q5⟩ := R.own j ds e'
      refine ⟨b, ws, q1, q2, fun z => ?_, q4, convs q5⟩
      rcases z with z | z
      · exact q3 z
      · exact hj (R.inj j i ds _ a e' e (z ▸ q1) h1)
  · rcases get_set e1 with ⟨_, z⟩ | ⟨_, e1⟩
    · cases z
    · rcases get_set e2 with ⟨_, z⟩ | ⟨_, e2⟩
      · cases z
      · exact R.inj j l ds es b e1 e2 e3 e4
end
/-- what the law's tree gives -/
def LawGood (T : Tab) (m : Nat) (f : Fn) (icup : Nat) (first : S) (rest : List S) (ns : List Int) : Prop :=
  ∃ (e : Env) (p q : Int) (e' : Env) (c' : C), evS T (run T m) first (entry f [.scr ns]) none = .ok .nx e none ∧ e[icup]? = some (some (.own [.int p, .int q])) ∧ evSs T (run T m) rest (e.set icup (some .cup)) (some (p, q)) = .ok (.rt (.bl true)) e' c'
def spLaw (S : Gs) (n : Nat) : L2.Sp := fun vs H Q _ => ∃ (a : Addr) (ns : List Int), vs = [.ref a] ∧ SqL S.K H a (ns.map V.int) ∧ ns.length ≤ n ∧ (∀ z ∈ ns, Builtin.Int.intBits z ≤ 1048576) ∧ LamX.Tabs S.T H ∧ ∀ H', Q (.bl true) H'
section
variable {P : Program} {w : World} {K : PySem.W.Frag} {mg : Str → Option Value} {base : Heap} {S : Gs} {k : Ck} {fl : List Str} {T : Tab} {Ns : Nat → List Str}
theorem staS_at (M : Mdl K mg base S k fl T Ns) {m : Nat} {N P' : List Str} {y : Str} {sc : Scope} {a : Addr} {cdv : Value} {A : Around} {outer : List PySem.Env} {s : Shared} {H : Hp} {E : L2.XK} {fq : Nat → PX.E → Scope → Expr → Bool} (Sc : L2.FnScope N P' sc) (hr : Room (3 * m + 2) (A.deeper (envOfC y sc s.heap.objs.size a cdv)))
    (fqs : fq = noFlq ∨ (fq = fltB { k with N := N } fl ∧ ∃ c P, LamX.TabB base mg c P ∧ cdv = .ref c ∧ (P, (y ++ ".<locals>.") ++ "<lambda>") ∈ S.T ∧ ∀ p ∈ S.T, p.1 = P → p.2 = (y ++ ".<locals>.") ++ "<lambda>"))
    (G : Gx) (hG : G.toGs = S) (hE : G.E = E) : StaS { k with N := N, flq := fq } T (run T m) (3 * m) sc (L2.cxOf (L2N.CX P w) P w K mg base N y sc a cdv A outer s H E) G := by
  have ih := defs_ok (P := P) (w := w) M m
  subst hE
  refine { toSta := sta_any M rfl rfl rfl rfl rfl rfl Sc.nd rfl rfl (hr.mono (by omega)) (L2N.takes_of rfl rfl rfl rfl) hG (fun _ _ => rfl) ih ?_, kind := Sc.kind, po := L2.passes_of rfl, ens := fun i z q => ?_ }
  · intro Y hY f' e p nb G' hG' hq
    rw [hG] at hG'
    rcases fqs with rfl | ⟨rfl, c0, P0, t1, t2, t3, t4⟩
    · cases hq
    · have LF : LamF Y S (3 * m) := LamF.like (X := L2.cxOf (L2N.CX P w) P w K mg base N y sc a cdv A outer s H G.E) ⟨hr, c0, P0, t1, t2, t3, t4⟩ hY
      refine flt_ok (k := { k with N := N }) (fl := fl) hY.N Sc.nd (hY.K.trans M.hK.symm) (fun B fr t J E' ls f2 c2 ca' O' H0' hr2 => ?_) (fun x hx => ?_) LF hG' hq
      · exact sta_any M (X := lamN Y B fr t J E' ls f2 c2) hY.prog hY.w hY.K hY.mg hY.base hY.N Sc.nd rfl rfl hr2 (L2N.takes_of rfl rfl rfl rfl) rfl (fun x hx => by
          have z : (List.lookup x ([] : List (Str × NameKind)) == some .cell) = true := hx
          cases z) ih (fun _ _ _ _ _ _ _ _ z => by cases z)
      · obtain ⟨F, q1, q2⟩ := M.flt f' x hx
        refine ⟨F, q1, ?_⟩
        rw [show Y.K = K from hY.K, show Y.mg = mg from hY.mg]
        exact q2
  · obtain ⟨C, bmB, B', nI, iI, F, q1, g, kp', sb, ty, hx⟩ := M.ens i z q
    exact ⟨C, bmB, B', nI, iI, F, q1, g, kp', L2.raises_own sb ty, by rw [hG]; exact hx⟩
/-- the law's def -/
theorem law_fn (M : Mdl K mg base S k fl T Ns) {m n : Nat} {y : Str} {st : Stmt} {a : Addr} {f : Fn} {N : List Str} {oc : Value} {od : Option Addr} {kV doc pm : Value} {an : Option Addr} {cdv ct : Value} {osl : Array (Option Value)} {fq : Nat → PX.E → Scope → Expr → Bool} {icup : Nat} {first : PX.S} {rest : List PX.S} {p0 : Stmt} {ps : List Stmt}
    (lk : K.lookup a = some ⟨oc, od, .func (PySem.W.fnOf y y (L2.defArgs st) (L2.defBody st) (L2.defScope st) .none kV doc pm an cdv ct), osl⟩) (hcd : PySem.W.codeIn K cdv y = true) (Sc : L2.FnScope N ["script"] (L2.defScope st)) (hn : N.length = f.ns) (hb : L2.defBody st = p0 :: ps)
    (ok1 : okS { k with N := N, flq := fq } first (L2.defScope st) p0 = true) (ok2 : okSs { k with N := N, flq := fq } rest (L2.defScope st) ps = true)
    (fqs : fq = noFlq ∨ (fq = fltB { k with N := N } fl ∧ ∃ c P, LamX.TabB base mg c P ∧ cdv = .ref c ∧ (P, (y ++ ".<locals>.") ++ "<lambda>") ∈ S.T ∧ ∀ p ∈ S.T, p.1 = P → p.2 = (y ++ ".<locals>.") ++ "<lambda>"))
    (good : ∀ ns : List Int, ns.length ≤ n → (∀ z ∈ ns, Builtin.Int.intBits z ≤ 1048576) → LawGood T m f icup first rest ns) :
    L2.FnOk P w K mg base (L2N.CX P w) (3 * m + 3) a (PySem.W.fnOf y y (L2.defArgs st) (L2.defBody st) (L2.defScope st) .none kV doc pm an cdv ct) ["script"] (spLaw S n) := by
  show L2.FnOk P w K mg base (L2N.CX P w) (3 * m + 2 + 1) a _ _ _
  refine L2.fn_of lk hcd Sc (fun vs H Q E ⟨b, ns, e, _⟩ => by rw [e]; rfl) fun A outer s H vs Q E hr ⟨b, ns, evs, hq, hlen, hbits, htab, hQ⟩ => ?_
  subst evs
  obtain ⟨e, p, q, e', c', g1, g2, g3⟩ := good ns hlen hbits
  have I : Inh ⟨S, none, fun _ => False, H, E⟩ none H := ⟨(show CupOk none none H from trivial), htab, Stp.refl _ _, (fun _ z => nomatch z), (fun _ z => z.elim)⟩
  have rp : Rps S.K S.fa none (fun _ => False) H [V.ref b] [D.scr ns] := .cons (.scr (by
    rcases hq with hq | hq
    · exact .inl ⟨hq, fun z => z⟩
    · exact .inr fun _ => .inr hq)) .nil
  have R0 : Rel ⟨S, none, fun _ => False, H, E⟩ (entry f [.scr ns]) none (L2.start N [.ref b]) H := entry_rel I (fun d hd es z => by
    rw [List.mem_singleton] at hd
    rw [hd] at z
    cases z) rp hn
  have S0 := staS_at (E := E) (H := H) (outer := outer) (P := P) (w := w) M Sc hr fqs ⟨S, none, fun _ => False, H, E⟩ rfl rfl
  have h1 := sS first p0 ok1 S0
  have h2 : PSs (L2.cxOf (L2N.CX P w) P w K mg base N y (L2.defScope st) a cdv A outer s H E) ps (fun Dn τ J => ∃ a', tS (Gx.pour ⟨S, none, fun _ => False, H, E⟩ a') (evSs T (run T m) rest) Dn τ J) := ⟨fun pins s' τ J Dn I' ⟨a', z⟩ =>
    (sSs rest ps ok2 (staS_at (E := E) (H := H) (outer := outer) (P := P) (w := w) M Sc hr fqs (Gx.pour ⟨S, none, fun _ => False, H, E⟩ a') rfl rfl)).run pins s' τ J Dn I' z⟩
  rw [hb]
  refine ⟨_, L2.pss_cons h1 h2, entry f [.scr ns], none, R0, ?_⟩
  show PostS _ _ _ _ _ (evS T (run T m) first (entry f [.scr ns]) none)
  rw [g1]
  intro τ J R F
  obtain ⟨a', R'⟩ := R.pour rfl g2
  refine ⟨a', _, _, R', ?_⟩
  rw [g3]
  intro v J' I' r _
  cases r
  exact hQ J'
end
/-- the end -/
theorem walk_px {l : PySem.W.OpenLaw} {n m : Nat} {q : Program} {loose : List Str} {XP : (Str → Option Value) → Heap → Prop} {YP : World → Heap → Prop} {d : DefRec} {K : Params → PySem.W.Frag} (hn : l.most = some n) (hn2 : n ≤ sizeLine) (hdf : d.params.defaults = []) (hr : Room (3 * m + 3) callerA) (hY : ∀ (w : World) (h : Heap), YP w h → (K w.params).In h)
    (F : ∀ (w : World) (mg : Str → Option Value) (fa : Addr) (h : Heap), YP w h → (K w.params).In h → h.Ns mainGlobals mg → mg d.name = some (.ref fa) → LamX.LawAtS l w (K w.params) (L2N.CX l.prog w) (3 * m + 3) n "script" mg fa h) :
    PySem.W.WalkO q loose XP YP l.row.toRowW d [] (fun f vs => PySem.call f vs) :=
  LamX.walk_ofTs (CX := fun w => L2N.CX l.prog w) hn hn2 hdf hr hY F fun w H s e s' z => by
    obtain ⟨_, _, _, _, _, _, _, _, _, _, _, _, z⟩ := z
    exact z
end PX

/-! # PX: a program's ties -/
namespace PX
open PySem PySem.Spec PyProof.Rows
open L2 (V HO Hp upd SqT SqL Rd TE TT TA TS TI TG Cx PE PT PA PS PSs PI PG Inv upd_same upd_ne OpR CallR IxR RelV Vals Room Vis Gl Loc)
/-- the looks at a def's text -/
def defChk (k : Ck) (f : Fn) (N : List Str) (fq : Nat → E → Scope → Expr → Bool) (st : Stmt) : Bool :=
  C8.scC N (N.take f.np) (L2.defScope st) && decide (f.np ≤ N.length) && decide (N.length = f.ns) && okSs { k with N := N, flq := fq } f.body (L2.defScope st) (L2.defBody st)
section
variable {K : PySem.W.Frag} {mg : Str → Option Value} {base : Heap} {S : Gs} {k : Ck} {fl : List Str} {T : Tab} {Ns : Nat → List Str}
theorem def_goal {j : Nat} {x : Str} {st : Stmt} {a : Addr} {f : Fn} {N : List Str} {oc : Value} {od : Option Addr} {kV doc pm : Value} {an : Option Addr} {cdv ct : Value} {osl : Array (Option Value)} {fq : Nat → PX.E → Scope → Expr → Bool} (hfa : S.fa j = some a) (g : mg x = some (.ref a)) (hf : T.funs[j]? = some f)
    (lk : K.lookup a = some ⟨oc, od, .func (PySem.W.fnOf x x (L2.defArgs st) (L2.defBody st) (L2.defScope st) .none kV doc pm an cdv ct), osl⟩) (cd : PySem.W.codeIn K cdv x = true) (kp : PySem.W.keepIn K (.ref a) = true) (hN : Ns j = N) (chk : defChk k f N fq st = true)
    (hb : ∀ (kV doc pm : Value) (an : Option Addr) (cdv ct : Value) (us : List Value), us.length = (N.take f.np).length → bindArgs (PySem.W.fnOf x x (L2.defArgs st) (L2.defBody st) (L2.defScope st) .none kV doc pm an cdv ct) ⟨us, []⟩ = pure ((N.take f.np).zip us))
    (fqs : fq = noFlq ∨ (fq = fltB { k with N := N } fl ∧ ∃ c P, LamX.TabB base mg c P ∧ cdv = .ref c ∧ (P, (x ++ ".<locals>.") ++ "<lambda>") ∈ S.T ∧ ∀ p ∈ S.T, p.1 = P → p.2 = (x ++ ".<locals>.") ++ "<lambda>")) : DefGoal K mg base S k fl T Ns j x := by
  unfold defChk at chk
  simp only [Bool.and_eq_true, decide_eq_true_eq] at chk
  obtain ⟨⟨⟨h1, h2⟩, h3⟩, h4⟩ := chk
  subst hN
  exact ⟨a, _, st, f, oc, od, kV, doc, pm, an, cdv, ct, osl, fq, hfa, g, hf, rfl, lk, cd, kp, .all (hb kV doc pm an cdv ct), C8.fnScope_by h1, h2, h3, h4, fqs⟩
theorem fnv_of {la : List Addr} {ln : List Str} (h : la.length = ln.length) (j : Nat) (a : Addr) (e : la[j]? = some a) : ∃ x, ln[j]? = some x := by
  have := (List.getElem?_eq_some_iff.mp e).1
  exact ⟨ln[j]'(by omega), List.getElem?_eq_getElem (by omega)⟩
def blB (K : PySem.W.Frag) : Bool := bnames.all fun x => match PySem.W.nsIn K mainGlobals x with
  | some none => true
  | _ => false
theorem blt_of {h : Heap} (X : K.In h) (G : h.Ns mainGlobals mg) (b : blB K = true) : ∀ x ∈ bnames, mg x = none := fun x hx => by
  have z := List.all_eq_true.mp b x hx
  split at z
  · rename_i e; exact PySem.W.mg_none_of X G e
  · cases z
theorem bool_of {f : Nat → Prop} {n : Nat} (h : ∀ j, j < n → f j) : ∀ j, j < n → f j := h
end
end PX

/-! # PX: while an exception is handled: a list walked to its end, a tuple taken apart -/
namespace PX
open PySem PySem.Spec PyProof.Rows HotX
section
variable {prog : Program} {w : World} {A : Around} {E : Value → Shared → Prop} {s : Shared}
/-- a StopIteration is made and raised: its context is what is handled -/
theorem stop_hot {α : Type} {x1 : Addr} (hot : HotAt A x1 s.heap)
    (hE : ∀ (e : Addr) (h' : Heap), (∀ b o, s.heap.get? b = some o → h'.get? b = some o) → Shared.TypeIs { s with heap := h' } (.ref e) "StopIteration" → E (.ref e) { s with heap := h' }) :
    wpAny (model prog w) A (newExc (.type "StopIteration") [] >>= fun x => (raiseNew x : Sem α)) (fun _ _ => False) E s := by
  obtain ⟨hh, o1, vs1, g1, g2, g3⟩ := hot
  refine wpAny_bind ?_
  simp only [newExc, newTuple]
  refine wpAny_bind (wpAny_newObj_type (wpAny_bind (m := firstArgMember _ _) (wpAny_of_eq (a := Value.none) (by first | rfl | (simp only [firstArgMember]; rfl)) (wpAny_newObj_type ?_ (by size_fits)))) (by size_fits))
  have up : ∀ (u v : Obj) b o, s.heap.get? b = some o → ((s.heap.push u).push v).get? b = some o := fun u v b o e => Heap.get?_push_of_some _ (Heap.get?_push_of_some _ e)
  refine raiseNew_hot ⟨hh, o1, vs1, up _ _ _ _ g1, g2, g3⟩ (Nat.ne_of_lt (Heap.lt_size (Heap.get?_push_of_some _ g1))) (Heap.get?_push_size _ rfl) rfl (by first | (simp; done) | (simp; omega)) ?_
  refine hE _ _ (fun b o e => ?_) ⟨_, Heap.get?_update_self _ (Heap.get?_push_size _ rfl) rfl, rfl⟩
  exact (Heap.get?_update_other _ _ (Nat.ne_of_gt (Heap.lt_size (Heap.get?_push_of_some _ e)))).trans (up _ _ b o e)
/-- a list's walk ends -/
theorem list_end_hot {i1 l x1 : Addr} {k : Nat} {items : Array Value} {Q : Option Value → Shared → Prop} (hot : HotAt A x1 s.heap) (ne : x1 ≠ i1) (on : s.heap.IsListIter i1 l k) (li : s.heap.IsList l items) (out : items[k]? = none)
    (hQ : ∀ h', Heap.ExtBut i1 s.heap h' → Q none { s with heap := h' }) : wpAny (model prog w) A (pyNext (.ref i1)) Q E s := by
  obtain ⟨o, g1, g2, g3⟩ := id on
  obtain ⟨ol, l1, _, nl, l2⟩ := li
  unfold pyNext
  refine wpAny_bind (wpAny_attempt (wpAny_callSpecial?_slot (name := Str.ofString "__next__") on.typeIs slot_listiter_next (wpAny_call_entry slot_listiter_next on.typeIs entry_listiter_next ?_ (args_listiter_next _))))
  show wpAny _ _ (field (Value.ref i1) 0 >>= _) _ _ s
  refine wpAny_bind (wpAny_field g1 g3 (x := Value.ref l) rfl ?_)
  show wpAny _ _ (if ((Value.ref l) == Value.none) = true then _ else _) _ _ s
  rw [if_neg (show ¬ (((Value.ref l) == Value.none) = true) from Bool.false_ne_true)]
  show wpAny _ _ (field (Value.ref i1) 1 >>= _) _ _ s
  refine wpAny_bind (wpAny_field g1 g3 (x := Value.int k 0) rfl ?_)
  show wpAny _ _ (seqItems? (Value.ref l) >>= _) _ _ s
  refine wpAny_bind (wpAny_seqItems l1 l2 ?_)
  simp only [Int.toNat_natCast, out]
  refine wpAny_bind (wpAny_rule (wpAny_bind (wpAny_setField g1 g3 (by simp) ?_)))
  obtain ⟨hh, o1, vs1, e1, e2, e3⟩ := hot
  have sb := Heap.SameBut.update s.heap i1 (Obj.mapFields (·.setIfInBounds 0 Value.none))
  refine wpAny_mono (stop_hot (x1 := x1) ⟨hh, o1, vs1, (sb.2 x1 ne).trans e1, e2, e3⟩ fun e h' up ty => ?_) (fun _ _ z => False.elim z) fun _ _ z => z
  exact wpAny_bind (wpAny_isInstance (b := true) ty isSubtype_stop (wpAny_pure (hQ _ fun b u hb q => up b u ((sb.2 b hb).trans q))))
theorem tup_end_hot {i1 t x1 : Addr} {k : Nat} {items : Array Value} {Q : Option Value → Shared → Prop} (hot : HotAt A x1 s.heap) (ne : x1 ≠ i1) (on : IsTupIter s.heap i1 t k) (tu : IsTup s.heap t items) (out : items[k]? = none)
    (hQ : ∀ h', Heap.ExtBut i1 s.heap h' → Q none { s with heap := h' }) : wpAny (model prog w) A (pyNext (.ref i1)) Q E s := by
  obtain ⟨o, g1, g2, g3⟩ := id on
  obtain ⟨ol, l1, _, nl, l2⟩ := tu
  unfold pyNext
  refine wpAny_bind (wpAny_attempt (wpAny_callSpecial?_slot (name := Str.ofString "__next__") on.typeIs slot_tupleiter_next (wpAny_call_entry slot_tupleiter_next on.typeIs entry_tupleiter_next ?_ (args_tupleiter_next _))))
  show wpAny _ _ (field (Value.ref i1) 0 >>= _) _ _ s
  refine wpAny_bind (wpAny_field g1 g3 (x := Value.ref t) rfl ?_)
  show wpAny _ _ (if ((Value.ref t) == Value.none) = true then _ else _) _ _ s
  rw [if_neg (show ¬ (((Value.ref t) == Value.none) = true) from Bool.false_ne_true)]
  show wpAny _ _ (field (Value.ref i1) 1 >>= _) _ _ s
  refine wpAny_bind (wpAny_field g1 g3 (x := Value.int k 0) rfl ?_)
  show wpAny _ _ (seqItems? (Value.ref t) >>= _) _ _ s
  refine wpAny_bind (wpAny_seqItems l1 l2 ?_)
  simp only [Int.toNat_natCast, out]
  refine wpAny_bind (wpAny_rule (wpAny_bind (wpAny_setField g1 g3 (by simp) ?_)))
  obtain ⟨hh, o1, vs1, e1, e2, e3⟩ := hot
  have sb := Heap.SameBut.update s.heap i1 (Obj.mapFields (·.setIfInBounds 0 Value.none))
  refine wpAny_mono (stop_hot (x1 := x1) ⟨hh, o1, vs1, (sb.2 x1 ne).trans e1, e2, e3⟩ fun e h' up ty => ?_) (fun _ _ z => False.elim z) fun _ _ z => z
  exact wpAny_bind (wpAny_isInstance (b := true) ty isSubtype_stop (wpAny_pure (hQ _ fun b u hb q => up b u ((sb.2 b hb).trans q))))
/-- a tuple taken apart -/
theorem apart_hot {env : PySem.Env} {es : List Expr} {kk : Nat} {pos : Pos} {t x1 : Addr} {items : Array Value} {Q : Unit → Shared → Prop} (hot : HotAt A x1 s.heap) (tu : IsTup s.heap t items) (len : (assignEach es env).length = items.size) (nostar : (assignEach es env).findIdx? (·.1) = none)
    (h : ∀ h', Heap.ExtBut s.heap.objs.size s.heap h' → wpAny (model prog w) A (assignInOrder ((assignEach es env).map (·.2)) items.toList) Q E { s with heap := h' }) : wpAny (model prog w) A (assign (.Tuple es kk pos) env (.ref t)) Q E s := by
  have young : t ≠ s.heap.objs.size := by
    obtain ⟨o, ho, _⟩ := tu
    exact Nat.ne_of_lt (Heap.lt_size ho)
  obtain ⟨hh, o1, vs1, e1, e2, e3⟩ := hot
  have young1 : x1 ≠ s.heap.objs.size := Nat.ne_of_lt (Heap.lt_size e1)
  rw [assign_Tuple]
  refine wpAny_bind (wpAny_standAt ?_)
  unfold unpack
  rw [len, nostar]
  refine wpAny_bind (wpAny_holding ?_)
  unfold unpackItems notIterableAtAll
  refine wpAny_bind (wpAny_bind (wpAny_specialOf tu.typeIs slot_tuple_iter.lookup (wpAny_pure ?_)))
  rw [if_neg Bool.false_ne_true]
  refine wpAny_bind (wpAny_holding (iter_tuple tu (wpAny_bind (wpAny_holding (draw_tuple young items.size 0 _ _ ⟨_, Heap.get?_push_size _ rfl, rfl, rfl⟩ (tu.push _) (by omega) fun h1 on1 same1 => ?_)))))
  rw [List.drop_zero, List.take_of_length_le (by simp), if_neg (by simp)]
  have hot1 : HotAt A x1 h1 := ⟨hh, o1, vs1, (same1.2 x1 young1).trans (Heap.get?_push_of_some _ e1), e2, e3⟩
  refine wpAny_bind (wpAny_holding (tup_end_hot hot1 young1 on1 ((tu.push _).extBut same1.extBut young) (by simp) fun h2 ext2 => ?_))
  rw [if_neg (by simp)]
  exact wpAny_pure (h h2 fun b o hb q => ext2 b o hb (same1.extBut b o hb (Heap.get?_push_of_some _ q)))
end
end PX

/-! # PX: a comprehension over a list while an exception is handled -/
namespace PX
open PySem PySem.Spec PyProof.Rows HotX
open L2 (V HO Hp upd SqT SqL Rd TE TT TA TS TI TG Cx PE PT PA PS PSs PI PG Inv upd_same upd_ne OpR CallR IxR RelV Vals Room Vis Gl Loc)
/-- whatever the state, the handled exception stands, its context None -/
def HotIn (B : Cx) : Prop := ∀ (pins : List (Addr × Obj)) (s : Shared) (σ : Sl) (H : Hp), Inv B pins σ H s → ∃ x1, HotAt B.A x1 s.heap
/-- a target that is a tuple -/
theorem pg_tupH {X : Cx} {es : List Expr} {kk n : Nat} {pos : Pos} {t : L2.TGs} (hot : HotIn X) (h : L2.PGs X es t) (hn : (assignEach es X.env).length = n) (hst : (assignEach es X.env).findIdx? (·.1) = none) : PG X (.Tuple es kk pos) (L2.gTup X.K n t) := by
  refine ⟨fun pins s σ H v u Q I r ⟨a, xs, ev, hq, hl, hw⟩ => ?_⟩
  subst ev
  cases r
  obtain ⟨its, rv, tu, _⟩ := I.tuple hq
  obtain ⟨x1, hx⟩ := hot pins s σ H I
  refine apart_hot hx tu (by rw [hn, ← hl, rv.length, List.size_toArray]) hst fun h' ext => ?_
  exact h.run pins _ σ H xs its Q (I.kept (t' := s.toks) fun b o e => ext b o (Nat.ne_of_lt (Heap.lt_size e)) e) rv hw
section
variable {X : Cx}
/-- [elt for tg in a list if ..] -/
theorem pe_lcH {elt tg it : Expr} {ifs : List Expr} {scope : Scope} {own : List (Str × Nat)} {pos : Pos} {tl : TE} {g : TG} {tt : TT} {te : TE} (hc : L2H.HotC X) (hN : X.N.Nodup) (hl : PE X it tl) (ok : L2.BlkOk X.N X.env.scope scope own)
    (hg : ∀ (s : Shared) (H : Hp) (C : Addr) (cl : List (Str × Addr)) (fp : List Addr), HotIn (X.blk s H scope (compEnvC scope cl C X.env) fp) → PG (X.blk s H scope (compEnvC scope cl C X.env) fp) tg g)
    (ht : ∀ (s : Shared) (H : Hp) (C : Addr) (cl : List (Str × Addr)) (fp : List Addr), L2.PTs (X.blk s H scope (compEnvC scope cl C X.env) fp) ifs tt)
    (he : ∀ (s : Shared) (H : Hp) (C : Addr) (cl : List (Str × Addr)) (fp : List Addr), PE (X.blk s H scope (compEnvC scope cl C X.env) fp) elt te) (hs : ∀ x, foldedSetIterable it X.env x = pure x) :
    PE X (.ListComp elt [⟨tg, it, ifs, 0⟩] scope pos) (L2.tLc (L2.iList X.K tl) g tt te (own.map (·.2))) := by
  refine ⟨fun pins s σ H Q I h => ?_⟩
  rw [eval_ListComp]
  obtain ⟨pe, ⟨hh, vsE, hdE, hE2⟩, hpn⟩ := hc
  have frees : ∀ y ∈ scope.names, y.2 = .free → ∃ c, X.env.cells.lookup y.1 = some c := fun y hy e => (ok.free y hy e).elim (fun k => I.ok.has _ (.inl k)) fun k => I.ok.has _ (.inr k)
  refine wpAny_comprehension_free (use := none) rfl hs (L2.closure_ok frees) ok.kind (fun y hy e => by rw [ok.uniq y hy, e]) (L2.thn (hl.run pins s σ H _ I h) fun lv s1 ⟨x, H1, I1, rx, a, ex, ⟨xs, hxs⟩, q⟩ => ?_)
  subst ex
  cases rx
  obtain ⟨its, rits, plain, _⟩ := I1.list hxs
  refine wpAny_pyIter_list plain.isList ?_
  -- the iterator at i1
  generalize hi1 : s1.heap.objs.size = i1
  generalize hs2 : ({ s1 with heap := s1.heap.push { cls := .type "list_iterator", data := .fields #[.ref a, .int 0 0] } } : Shared) = s2
  have I2 : Inv X pins σ H1 s2 := by
    rw [← hs2]
    exact I1.kept (t' := s1.toks) fun b o e => Heap.get?_push_of_some _ e
  have on2 : s2.heap.IsListIter i1 a 0 := by
    rw [← hs2, ← hi1]
    exact ⟨_, Heap.get?_push_size _ rfl, rfl, rfl⟩
  have f2 : L2.FpOk X pins H1 i1 := I1.fpOk (Nat.le_of_eq hi1) (I1.hok.fresh (Nat.le_of_eq hi1))
  have lt2 : i1 < s2.heap.objs.size := by
    obtain ⟨o, e, _⟩ := on2
    exact Heap.lt_size e
  refine wpAny_newObj_type (L2.newEnv_comp ?_) (by show 0 ≤ sizeLine; decide)
  generalize hD : s2.heap.objs.size = D
  have freeD : H1 D = none := I2.hok.fresh (Nat.le_of_eq hD)
  obtain ⟨W, ⟨m0, w0⟩, turn⟩ := q D freeD
  generalize hs3 : ({ s2 with heap := s2.heap.push { cls := .type "list", data := .seq ([] : List Value).toArray } } : Shared) = s3
  have I3 : Inv X pins σ (upd H1 D (.lst [])) s3 := by
    rw [← hs3]
    exact I2.laid (t' := s2.toks) (fun b o e => Heap.get?_push_of_some _ e) (Nat.le_of_eq hD) ⟨Nat.zero_le _, [], 0, .nil, by rw [← hD]; exact Heap.get?_push_size _ rfl⟩
  have to3 : ∀ b o, s2.heap.get? b = some o → s3.heap.get? b = some o := fun b o e => by
    rw [← hs3]
    exact Heap.get?_push_of_some _ e
  have lt3 : i1 < s3.heap.objs.size := by
    obtain ⟨o, e, _⟩ := on2
    exact Heap.lt_size (to3 _ _ e)
  have ne1 : i1 ≠ D := by rw [← hD]; exact Nat.ne_of_lt lt2
  have f3 : L2.FpOk X pins (upd H1 D (.lst [])) i1 := ⟨by rw [upd_ne ne1]; exact f2.1, f2.2⟩
  have on3 : s3.heap.IsListIter i1 a 0 := on2.at fun o e => to3 _ _ e
  have I4 := L2.block_start (fp := [i1]) I3 ok hN fun b hb => by
    rw [List.mem_singleton] at hb
    rw [hb]
    exact ⟨f3, lt3⟩
  -- the block's context
  generalize hC : s3.heap.objs.size = C at I4 ⊢
  generalize hH3 : upd H1 D (.lst []) = H3 at I3 I4 w0 f3 ⊢
  generalize hcls : cellsFrom (C + 1) scope.names (L2.cloFrom X.env.cells scope.names []) = cls at I4 ⊢
  show codeAny _ _ (.compStart (.ListComp elt [⟨tg, it, ifs, 0⟩] scope pos) 0 (.ref i1) (.ref D) (compEnvC scope cls C X.env)) (compPost (model X.prog X.w) X.A X.xe none (L2.EP X pins σ Q) (.ref D) C) { s3 with heap := pushCells (s3.heap.push { cls := .type "dict", data := .dict #[] }) scope.names }
  have rules := fun B (e : X.blk s3 H3 scope (compEnvC scope cls C X.env) [i1] = B) => (⟨fun z => e ▸ hg s3 H3 C cls [i1] (by rw [e]; exact z), e ▸ ht s3 H3 C cls [i1], e ▸ he s3 H3 C cls [i1]⟩ : (HotIn B → PG B tg g) ∧ L2.PTs B ifs tt ∧ PE B elt te)
  generalize hce : compEnvC scope cls C X.env = ce at I4 rules ⊢
  have cL : ce.locals = C := by subst hce; rfl
  obtain ⟨pg, pt, pel⟩ := rules _ rfl
  generalize hs4 : ({ s3 with heap := pushCells (s3.heap.push { cls := .type "dict", data := .dict #[] }) scope.names } : Shared) = s4 at I4 ⊢
  have on4 : s4.heap.IsListIter i1 a 0 := on3.at fun o e => by
    rw [← hs4]
    exact pushCells_keeps _ _ _ _ (Heap.get?_push_of_some _ e)
  -- the handled exception, seen from within
  have exc3 := I3.pin pe (List.mem_append_left _ hpn)
  have neE : pe.1 ≠ i1 := f3.2.2.2.2.2 pe (List.mem_append_left _ hpn)
  have excIn : ∀ {p' : List (Addr × Obj)} {σ' : Sl} {H' : Hp} {s' : Shared}, Inv (X.blk s3 H3 scope ce [i1]) p' σ' H' s' → s'.heap.get? pe.1 = some pe.2 := fun {p' σ' H' s'} J => by
    refine J.base.keep pe.1 pe.2 exc3.1 exc3.2.1 (fun z => ?_) fun z => neE (List.mem_singleton.mp z)
    rcases List.mem_cons.mp (I3.stkSub _ z) with y | y
    · exact exc3.2.2.1 y
    · exact exc3.2.2.2.1 y
  have hotB : HotIn (X.blk s3 H3 scope ce [i1]) := fun p' s' σ' H' J => ⟨pe.1, hh, pe.2, vsE, excIn J, hdE, hE2⟩
  have ownFp : ∀ {σ' : Sl} {H' : Hp} {s' : Shared}, Inv (X.blk s3 H3 scope ce [i1]) [] σ' H' s' → H' i1 = none → L2.FpOk (X.blk s3 H3 scope ce [i1]) [] H' i1 := fun {σ' H' s'} J n =>
    have m : i1 ∈ [i1] := List.mem_singleton.mpr rfl
    ⟨n, (J.ok.exf i1 m).1, J.ok.exfs i1 m, .inl m, fun x c e => (J.ok.exf i1 m).2 x c e, fun p hp => absurd (show p ∈ ([] : List (Addr × Obj)) ++ [] from hp) (by simp)⟩
  have loop : codeAny (model X.prog X.w) X.A (.compLoop (.ListComp elt [⟨tg, it, ifs, 0⟩] scope pos) 0 (.ref i1) (.ref D) ce) (compPost (model X.prog X.w) X.A X.xe none (L2.EP X pins σ Q) (.ref D) C) s4 := by
    refine L2.compLoop_any (fun n t => ∃ i J, Inv (X.blk s3 H3 scope ce [i1]) [] (L2.wipe σ (own.map (·.2))) J t ∧ t.heap.IsListIter i1 a i ∧ J i1 = none ∧ W i n J) ?_ m0 ⟨0, H3, I4, on4, f3.1, w0⟩
    rintro n t ⟨i, J, It, ont, nJ, wJ⟩
    obtain ⟨f0, f1, f3', f4, f5, f6⟩ := ownFp It nJ
    rcases turn i n J wJ with ⟨⟨ys, hy, out⟩, qend⟩ | ⟨⟨ys, y, hy, at_⟩, Nx, nxt, step⟩
    · -- the list is at its end
      obtain ⟨jts, rj, pj, _⟩ := It.list hy
      refine list_end_hot ⟨hh, pe.2, vsE, excIn It, hdE, hE2⟩ neE ont pj.isList (by have := rj.length; simp; omega) fun h' ext => ?_
      have It' : Inv (X.blk s3 H3 scope ce [i1]) [] (L2.wipe σ (own.map (·.2))) J { t with heap := h' } := It.turned (t' := t.toks) (fun b o hb e => ext b o hb e) f0 f1 f4 f5 f6
      have back : Inv X pins σ J { t with heap := h' } := I3.call' (ch := [i1]) It'.os It'.base It'.hok It'.bare fun b hb => by
        rw [List.mem_singleton] at hb
        rw [hb]
        exact ⟨f3.2.2.2.1, f3.2.1, f3.2.2.2.2.1, f3.2.2.2.2.2⟩
      have noC : J C = none := by
        have z : J ce.locals = none := It'.free
        rw [cL] at z
        exact z
      obtain ⟨mm, hns, _⟩ := It'.loc
      have hns : ({ t with heap := h' } : Shared).heap.Ns ce.locals mm := hns
      rw [cL] at hns
      obtain ⟨g0, g1, g2, g3, g4, g5⟩ := I3.fpOk (Nat.le_of_eq hC) noC
      exact ⟨mm, hns, fun h'' sb => ⟨.ref D, J, back.turned (t' := t.toks) (fun b o hb e => (sb.2 b hb).trans e) g0 g1 g3 g4 g5, rfl, qend⟩⟩
    · obtain ⟨jts, rj, pj, _⟩ := It.list hy
      obtain ⟨u, hu, ru⟩ := rj.get at_
      refine wpAny_pyNext_list_item ont pj.isList (x := u) (by simpa using hu) fun h' on' sb => ?_
      have I7 : Inv (X.blk s3 H3 scope ce [i1]) [] (L2.wipe σ (own.map (·.2))) J { t with heap := h' } := It.turned (t' := t.toks) (fun b o hb e => (sb.2 b hb).trans e) f0 f1 f4 f5 f6
      obtain ⟨oi, ei, ci, di⟩ := id on'
      refine L2.go_of (s := { t with heap := h' }) ei ci di (by decide) ?_
      have pins7 := I7.pinned (fp := [i1]) (fun b hb => by
        rw [List.mem_singleton] at hb
        rw [hb]
        exact ownFp I7 nJ) fun b hb => by
        rw [List.mem_singleton] at hb
        rw [hb]
        exact ⟨oi, ei, fun v z => by rw [di] at z; cases z⟩
      have stepQ := step y J ⟨rfl, fun zs hz => by rw [It.list_inj hz hy]; exact at_⟩
      refine L2.thnF ((pg hotB).run _ _ _ J y u _ pins7 ru stepQ) fun _ t8 ⟨σ8, J8, I8, w8, q8⟩ => ?_
      refine L2.thnF (pt.run _ t8 σ8 J8 _ I8 q8) fun b t9 ⟨J9, I9, q9⟩ => ?_
      have fin : ∀ {t' : Shared} {J' : Hp}, Inv (X.blk s3 H3 scope ce [i1]) ([] ++ L2.pinsAt [i1] h') σ8 J' t' → Nx J' → ∃ m, m < n ∧ ∃ i J'', Inv (X.blk s3 H3 scope ce [i1]) [] (L2.wipe σ (own.map (·.2))) J'' t' ∧ t'.heap.IsListIter i1 a i ∧ J'' i1 = none ∧ W i m J'' := fun {t' J'} I' nx => by
        obtain ⟨m', hm, w'⟩ := nxt J' nx
        have held := I'.pin (i1, oi) (List.mem_append_right _ (List.mem_append_right _ (L2.mem_pinsAt (List.mem_singleton.mpr rfl) ei)))
        refine ⟨m', hm, i + 1, J', (I'.unpinned (pins := [])).weak (by rw [← w8, L2.wipe_length]) (fun j v e => ?_), ⟨oi, held.1, ci, di⟩, held.2.1, w'⟩
        rw [← w8] at e
        exact (L2.wipe_some e).1
      cases b with
      | false =>
        rw [if_neg Bool.false_ne_true] at q9 ⊢
        exact fin I9 q9
      | true =>
        rw [if_pos rfl] at q9 ⊢
        refine L2.thnF (pel.run _ t9 σ8 J9 _ I9 q9) fun z t10 ⟨yv, J10, I10, r10, acc, hDa, hz, nx⟩ => ?_
        exact L2.app_ok (X := X.blk s3 H3 scope ce [i1]) I10 hDa hz r10 fun t11 I11 => fin I11 nx
  exact codeAny_compStart_list loop (wpAny_pyIter_listiter on4 loop)
end
end PX

/-! # PX: what a trying def's suite tells -/
namespace PX
open PySem PySem.Spec PyProof.Rows HotX
open L2 (V HO Hp upd SqT SqL Rd TE TT TA TS TI TG Cx PE PT PA PS PSs PI PG Inv upd_same upd_ne OpR CallR IxR RelV Vals Room Vis Gl Loc)
/-- errors without numbers, by their class -/
def simpleF (good : D) (l : List (Nat × D)) : Flt := ⟨good, fun x => if x.args.isEmpty then l.lookup x.cls else none⟩
/-- the suite's reading: the error at a stands in slot 1 -/
def tSuite (S : Gs) (F : Flt) (a : Addr) (cls : Value) (d : Option Addr) : TS := fun D σ H => (∃ σ0 : Sl, σ = σ0.set 1 (some (.ref a))) ∧ badE S F D.rt cls d H
/-- the classes of errors, as the suite asks them -/
structure ErrC (K : PySem.W.Frag) (S : Gs) (CS : Addr) (js is : List Nat) (kit : Nat → Nat → Bool) : Prop where
  cls : ∀ j ∈ js, ∃ D, S.xa j = some (.ref D) ∧ L2.ExcC K D ∧ PySem.W.exmOne K (.ref D) (.ref CS) = some true ∧ PySem.W.kitOne K (.ref D) (.type "ValueError") = some true ∧
    ∀ i ∈ is, ∃ C, S.xa i = some (.ref C) ∧ PySem.W.kitOne K (.ref D) (.ref C) = some (kit j i)
theorem takesN0 {X : Cx} : L2N.Takes X (fun _ _ _ _ => False) := fun _ _ x => by
  obtain ⟨_, _, _, _, _, _, _, _, _, _, _, _, _, _, _, _, z⟩ := x
  exact z.elim
theorem lookup_mem {α β : Type} [BEq α] [LawfulBEq α] {l : List (α × β)} {a : α} {b : β} (h : l.lookup a = some b) : a ∈ l.map (·.1) := by
  induction l with
  | nil => cases h
  | cons p l ih =>
    obtain ⟨x, y⟩ := p
    rw [List.lookup_cons] at h
    cases e : (a == x) with
    | true => rw [List.map_cons, eq_of_beq e]; exact List.mem_cons_self
    | false =>
      rw [e] at h
      exact List.mem_cons_of_mem _ (ih h)
section
variable {K : PySem.W.Frag} {S : Gs} {CS : Addr} {good : D} {l : List (Nat × D)} {js is : List Nat} {kit : Nat → Nat → Bool}
theorem bad_simple {Q : L2.VK} {cls : Value} {dd : Option Addr} {H : Hp} (hl : l.map (·.1) = js) (E : ErrC K S CS js is kit) (h : badE S (simpleF good l) Q cls dd H) : ∃ j D v d, j ∈ js ∧ S.xa j = some (.ref D) ∧ cls = .ref D ∧ dd = none ∧ l.lookup j = some d ∧ scV d = some v ∧ ∀ H', Grow H H' → Q v H' := by
  obtain ⟨x, d, v, ⟨h1, h2⟩, hb, hv, hQ⟩ := h
  have hb : (if x.args.isEmpty then l.lookup x.cls else none) = some d := hb
  split at hb
  case isFalse => cases hb
  rename_i he
  have he : x.args = [] := List.isEmpty_iff.mp he
  have hm : x.cls ∈ js := by rw [← hl]; exact lookup_mem hb
  obtain ⟨D, e1, _⟩ := E.cls _ hm
  rw [e1] at h1
  refine ⟨x.cls, D, v, d, hm, e1, (Option.some.inj h1).symm, ?_, hb, hv, hQ⟩
  rcases h2 with ⟨_, z⟩ | ⟨z, _⟩
  · exact z
  · exact absurd he z
/-- try: call() / except CS as error: suite / return good -/
theorem gives_one {X : Cx} {Ng : List Str} {x a er en q : Str} {sg : Scope} {g : Addr} {cdg : Value} {ge : Expr} {gv : V} {b0 : Stmt} {suite : List Stmt} {p1 p2 p3 np pos' pos p9 : Pos} (E : ErrC X.K S CS js is kit) (hl : l.map (·.1) = js)
    (nd : Ng.Nodup) (h0 : ∀ f : Addr, (L2.start Ng [V.ref f])[0]? = some (some (.ref f))) (hi : Ng[1]? = some er) (hloc : sg.names.lookup er = some .local) (hgl : sg.names.lookup en = some .globalImplicit) (hdb : (en == ("__debug__" : Str)) = false) (hm : X.mg en = some (.ref CS)) (hgood : scV good = some gv)
    (hge : ∀ Y : Cx, PE Y ge (L2.tC gv))
    (hsu : ∀ (Z : Cx), Z.K = X.K → Z.mg = X.mg → Z.N = Ng → Z.env.scope = sg → ∀ (e : Addr) (oe : Obj) (cls : Value) (d : Option Addr) (pn : List (Addr × Obj)), L2N.Zn cls d oe → (∃ vs, oe.data = .fields vs) → PSs (Z.suite e ((e, oe) :: pn)) (b0 :: suite) (tSuite S (simpleF good l) e cls d)) :
    Gives X Ng x sg g cdg [.Try [.Expr (.Call (.Name a p1) [] [] p2) p3] [.ExceptHandler (some (.Name en np)) (some er) (b0 :: suite) pos'] [] [] pos, .Return (some ge) p9] a q (toldF S (simpleF good l)) := by
  intro f c s H Q tl act code told
  refine ⟨_, L2.pss_cons (L2N.ps_try_as (X := (tryX X Ng x sg g cdg s H).nox) (i := 1) (c := .ref CS) (Wout := fun _ _ _ _ => False)
      (tb := fun W D σ J => ∃ Ech : L2.XK, (∀ cls d τ J', Ech cls d J' → W cls d τ J') ∧ σ[0]? = some (some (.ref f)) ∧ J c = some (LamX.CodeO c q) ∧ tl Ech J fun _ J1 => D.nx σ J1)
      (ts := tSuite S (simpleF good l)) rfl rfl nd hi hloc ⟨hgl, hdb, .inl hm⟩ takesN0 (fun W pn xe tk _ => ?_) (fun e oe cls d pn hz hf => hsu (tryX X Ng x sg g cdg s H).nox rfl rfl rfl rfl e oe cls d pn hz hf)) (L2.pss_one (L2.ps_ret (hge _))), ?_⟩
  · refine ⟨fun pins t σ J D I ⟨Ech, hW, h1, h2, h3⟩ => ?_⟩
    exact (L2.pss_one (L2.ps_expr (act W pn xe Ech p1 p2 tk hW) (by rfl))).run pins t σ J D I ⟨h1, h2, h3⟩
  · refine ⟨badE S (simpleF good l) Q, fun cls d τ J hb => ?_, h0 f, code, ?_⟩
    · obtain ⟨j, D, v, dd, hj, e1, e2, _, _, _, _⟩ := bad_simple hl E hb
      obtain ⟨D', f1, _, f3, _⟩ := E.cls j hj
      rw [e1] at f1
      cases f1
      exact ⟨true, by rw [e2]; exact f3, fun _ e _ => ⟨⟨τ, rfl⟩, hb⟩, fun z => by cases z⟩
    · have e : (fun (_ : V) (J1 : Hp) => ∃ v, scV good = some v ∧ Q v J1) = fun (_ : V) (J1 : Hp) => Q gv J1 := by
        funext _ J1
        apply propext
        constructor
        · rintro ⟨v, hv, hq⟩
          rw [hgood] at hv
          cases hv
          exact hq
        · exact fun hq => ⟨gv, hgood, hq⟩
      have told : tl (badE S (simpleF good l) Q) H (fun _ J1 => ∃ v, scV good = some v ∧ Q v J1) := told
      rw [e] at told
      exact told
end
end PX

/-! # PX: the suite that tells the kinds of an error -/
namespace PX
open PySem PySem.Spec PyProof.Rows HotX
open L2 (V HO Hp upd SqT SqL Rd TE TT TA TS TI TG Cx PE PT PA PS PSs PI PG Inv upd_same upd_ne OpR CallR IxR RelV Vals Room Vis Gl Loc)
/-- pairs of a word and a bool, in memory -/
inductive Kat (H : Hp) : List Addr → List (Str × Bool) → Prop
  | nil : Kat H [] []
  | cons {p : Addr} {ps : List Addr} {w : Str} {b : Bool} {l : List (Str × Bool)} : H p = some (.tup [.str w, .bl b]) → Kat H ps l → Kat H (p :: ps) ((w, b) :: l)
theorem Kat.grow {H H' : Hp} (g : Grow H H') : ∀ {ps : List Addr} {l : List (Str × Bool)}, Kat H ps l → Kat H' ps l
  | _, _, .nil => .nil
  | _, _, .cons e r => .cons (g _ _ e) (r.grow g)
theorem Kat.len {H : Hp} : ∀ {ps : List Addr} {l : List (Str × Bool)}, Kat H ps l → ps.length = l.length
  | _, _, .nil => rfl
  | _, _, .cons _ r => by simp [r.len]
theorem Kat.at {H : Hp} : ∀ {ps : List Addr} {l : List (Str × Bool)} {i : Nat} {p : Addr}, Kat H ps l → ps[i]? = some p → ∃ w b, l[i]? = some (w, b) ∧ H p = some (.tup [.str w, .bl b])
  | _, _, _, _, .nil, e => by simp at e
  | _, _, 0, _, .cons e _, z => by simp at z; subst z; exact ⟨_, _, rfl, e⟩
  | _, _, i + 1, _, .cons _ r, z => by
    obtain ⟨w, b, h1, h2⟩ := r.at (i := i) (by simpa using z)
    exact ⟨w, b, by simpa using h1, h2⟩
theorem Kat.app {H : Hp} : ∀ {ps qs : List Addr} {l m : List (Str × Bool)}, Kat H ps l → Kat H qs m → Kat H (ps ++ qs) (l ++ m)
  | _, _, _, _, .nil, s => s
  | _, _, _, _, .cons e r, s => .cons e (r.app s)
theorem Grow.refl (H : Hp) : Grow H H := fun _ _ h => h
theorem Grow.trans {H H1 H2 : Hp} (a : Grow H H1) (b : Grow H1 H2) : Grow H H2 := fun x o h => b x o (a x o h)
theorem Grow.new {H : Hp} {p : Addr} {o : HO} (h : H p = none) : Grow H (upd H p o) := fun b u e => by
  rw [upd_ne (L2.ne_of_none e h)]; exact e
/-- the words that are told -/
def sel (l : List (Str × Bool)) : List Str := (l.filter (·.2)).map (·.1)
theorem sel_snoc {l : List (Str × Bool)} {w : Str} {b : Bool} : sel (l ++ [(w, b)]) = if b then sel l ++ [w] else sel l := by
  unfold sel
  rw [List.filter_append, List.map_append]
  cases b <;> simp
/-- a word and a class's index, against the text -/
def kindB (k : Ck) (sc : Scope) (er : Str) : List (Str × Nat) → List Expr → Bool
  | [], [] => true
  | (w, i) :: l, .Tuple [.Constant (.str z) _ _, .Call (.Name f _) [.Name e _, .Name c _] [] _] _ _ :: es => decide (z = w) && decide (f = "isinstance") && decide (e = er) && decide (k.en[i]? = some c) && glB sc f && glB sc c && okN c && kindB k sc er l es
  | _, _ => false
def kbs (kit : Nat → Nat → Bool) (j : Nat) (l : List (Str × Nat)) : List (Str × Bool) := l.map fun p => (p.1, kit j p.2)
section
variable {K : PySem.W.Frag} {mg : Str → Option Value} {S : Gs} {CS : Addr} {js is : List Nat} {kit : Nat → Nat → Bool} {k : Ck}
/-- what the suite's context is -/
structure SuiteX (K : PySem.W.Frag) (mg : Str → Option Value) (Ng : List Str) (sc : Scope) (er : Str) (e D : Addr) (oe : Obj) (Y : Cx) : Prop where
  ex : ∃ (Z : Cx) (pn : List (Addr × Obj)), Y = Z.suite e ((e, oe) :: pn)
  hK : Y.K = K
  hmg : Y.mg = mg
  hN : Y.N = Ng
  hsc : Y.env.scope = sc
  zn : L2N.Zn (.ref D) none oe
  fl : ∃ vs, oe.data = .fields vs
  i1 : Ng[1]? = some er
  vis : Vis sc er
  ok : okN er = true
  bl : ∀ x ∈ bnames, mg x = none
variable {Ng : List Str} {sc : Scope} {er : Str} {e D : Addr} {oe : Obj} {Y : Cx}
theorem SuiteX.hot (X : SuiteX K mg Ng sc er e D oe Y) : L2H.HotC Y := by
  obtain ⟨Z, pn, rfl⟩ := X.ex
  obtain ⟨vs, hv⟩ := X.fl
  exact ⟨(e, oe), ⟨rfl, vs, hv, X.zn.2.2 vs hv⟩, List.mem_cons_self⟩
/-- isinstance(error, C) -/
theorem isE_ok (X : SuiteX K mg Ng sc er e D oe Y) (EC : L2.ExcC K D) {cn : Str} {c : V} {cv : Value} {b : Bool} {p p1 pc pos : Pos} (hg : glB sc "isinstance" = true) (hcx : PE Y (.Name cn pc) (L2.tC c)) (hcv : ∀ u, RelV c u → u = cv) (hk : PySem.W.kitOne K (.ref D) cv = some b) :
    PE Y (.Call (.Name "isinstance" p) [.Name er p1, .Name cn pc] [] pos) (fun σ H Q => σ[1]? = some (some (.ref e)) ∧ Q (.bl b) H) := by
  have gl : Gl Y "isinstance" := by
    have z := of_decide_eq_true hg
    rw [← X.hsc] at z
    exact z
  have hm : Y.mg "isinstance" = none := by rw [X.hmg]; exact X.bl _ (by decide)
  have hv : PE Y (.Name er p1) (L2.tVar 1) := L2.pe_var (by rw [X.hN]; exact X.i1) (by rw [X.hsc]; exact X.vis) (okN_d X.ok).1 (okN_d X.ok).2
  have hK := X.hK
  have call : CallR Y (.builtin "isinstance") (L2.rIsE K D e) := by
    obtain ⟨Z, pn, rfl⟩ := X.ex
    rw [← hK] at EC ⊢
    exact L2.call_isE EC X.zn.zc X.fl
  exact pe_imp (L2.pe_callB call gl hm PyProof.Rows.boot_isinstance (L2.pa_cons hv (L2.pa_cons hcx L2.pa_nil)) (by decide) (by decide) (by rfl) (by rfl)) fun σ H Q ⟨h1, h2⟩ => ⟨.ref e, h1, c, cv, b, rfl, hcv, hk, h2⟩
/-- the display's items -/
theorem kinds_pa (X : SuiteX K mg Ng sc er e D oe Y) {j : Nat} (EC : L2.ExcC K D) (hi : ∀ i ∈ is, ∃ C x, k.en[i]? = some x ∧ mg x = some (.ref C) ∧ PySem.W.kitOne K (.ref D) (.ref C) = some (kit j i)) : ∀ (l : List (Str × Nat)) (es : List Expr), kindB k sc er l es = true → (∀ p ∈ l, p.2 ∈ is) →
    PA Y es (fun σ H Q => σ[1]? = some (some (.ref e)) ∧ ∀ ps H', Grow H H' → Kat H' ps (kbs kit j l) → Q (ps.map V.ref) H')
  | [], es, h, _ => by
    cases es with
    | nil => exact pa_imp L2.pa_nil fun σ H Q ⟨_, q⟩ => q [] H (Grow.refl H) .nil
    | cons _ _ => simp [kindB] at h
  | (w, i) :: l, es, h, hm => by
    unfold kindB at h
    split at h
    · rename_i heq; cases heq
    · rename_i w' i' l' z pz1 pz2 f pf e' pe' c pc pcall kk ptup es' heq1
      cases heq1
      simp only [Bool.and_eq_true, decide_eq_true_eq] at h
      obtain ⟨⟨⟨⟨⟨⟨⟨q1, q2⟩, q3⟩, h4⟩, h5⟩, h6⟩, h7⟩, h8⟩ := h
      rw [q1, q2, q3]
      rw [q2] at h5
      obtain ⟨C, x, hx, hc, hk⟩ := hi i (hm _ List.mem_cons_self)
      rw [h4] at hx
      cases hx
      have glc : Gl Y c := by
        have z := of_decide_eq_true h6
        rw [← X.hsc] at z
        exact z
      have hcx : PE Y (.Name c pc) (L2.tC (.ref C)) := L2.pe_glob glc (by rw [X.hmg]; exact hc) rfl (okN_d h7).1
      have item := isE_ok (p := pf) (p1 := pe') (pos := pcall) X EC h5 hcx (fun u r => r) hk
      refine pa_imp (L2.pa_cons (L2.pe_tup (L2.pa_cons L2.pe_str (L2.pa_cons item L2.pa_nil))) (kinds_pa X EC hi l _ h8 fun p hp => hm p (List.mem_cons_of_mem _ hp)) (by rfl)) fun σ H Q ⟨h1, q⟩ => ?_
      refine ⟨h1, by show 2 ≤ sizeLine; rw [sizeLine_eq]; omega, fun p hp => ⟨h1, fun ps H' g ka => ?_⟩⟩
      exact q (p :: ps) H' ((Grow.new hp).trans g) (.cons (g _ _ upd_same) ka)
    · cases h
/-- [word for word, good in .. if good] -/
def lcKB (k : Ck) (sc : Scope) (iw ig : Nat) : Expr → Option Expr
  | .ListComp (.Name w1 _) [⟨.Tuple [.Name w2 _, .Name g2 _] _ _, it, [.Name g3 _], 0⟩] scope _ =>
    if L2.blkC k.N sc scope (ownP k [iw, ig]) && slotB k iw w1 && slotB k iw w2 && slotB k ig g2 && slotB k ig g3 && visB (L2.relS scope sc) w1 && visB (L2.relS scope sc) g3 && okN w1 && okN g3 && locB (L2.relS scope sc) (some scope) w2 && locB (L2.relS scope sc) (some scope) g2 && !isSet it && decide (iw ≠ ig) then some it else none
  | _ => none
theorem vis_by {sc : Scope} {x : Str} (h : visB sc x = true) : Vis sc x := by
  unfold visB at h
  unfold L2.Vis
  split at h <;> first | (cases h; done) | simp_all
theorem loc_by {sc : Scope} {fs : Option Scope} {x : Str} (h : locB sc fs x = true) : Loc sc x ∧ (fnB fs x = true ∨ sc.names.lookup x = some .local) := by
  unfold locB at h
  unfold L2.Loc
  split at h
  · rename_i e; exact ⟨.inl e, .inr e⟩
  · rename_i e; exact ⟨.inr e, .inl h⟩
  · cases h
theorem wipe_set2 {σ : Sl} {i j : Nat} {u v : Option V} : L2.wipe (((L2.wipe σ [i, j]).set i u).set j v) [i, j] = L2.wipe σ [i, j] :=
  wipe_eq [i, j] (by rw [List.length_set, List.length_set, L2.wipe_length]) fun t ht => by
    have ht' := ht
    simp only [List.mem_cons, List.not_mem_nil, or_false, not_or] at ht
    rw [List.getElem?_set_ne (Ne.symm ht.2), List.getElem?_set_ne (Ne.symm ht.1), L2.wipe_out ht']
/-- what is walked is a list of pairs; the words told come out -/
theorem lcK (hot : L2H.HotC Y) (hN : Y.N = k.N) (nd : k.N.Nodup) (hsc : Y.env.scope = sc) {iw ig : Nat} {p it : Expr} (h : lcKB k sc iw ig p = some it) (hw : iw < k.N.length) (hg : ig < k.N.length) {Pre : List (Str × Bool) → Sl → Hp → Prop} (hl : PE Y it (fun σ H R => ∃ l, Pre l σ H ∧ ∀ a ps H1, Grow H H1 → H1 a = some (.lst (ps.map V.ref)) → Kat H1 ps l → R (.ref a) H1)) :
    PE Y p (fun σ H Q => σ.length = k.N.length ∧ ∃ l, Pre l σ H ∧ l.length < sizeLine ∧ ∀ D H', Grow H H' → H' D = some (.lst ((sel l).map V.str)) → Q (.ref D) H') := by
  unfold lcKB at h
  split at h
  case h_2 => cases h
  rename_i w1 q1 w2 q2 g2 q3 kk q4 it' g3 q5 scope pos
  split at h
  case isFalse => cases h
  rename_i hc
  cases h
  simp only [Bool.and_eq_true, Bool.not_eq_true', decide_eq_true_eq] at hc
  obtain ⟨⟨⟨⟨⟨⟨⟨⟨⟨⟨⟨⟨c1, c2⟩, c3⟩, c4⟩, c5⟩, c6⟩, c7⟩, c8⟩, c9⟩, d1⟩, d2⟩, d3⟩, d4⟩ := hc
  have hb : L2.BlkOk Y.N Y.env.scope scope (ownP k [iw, ig]) := L2.blkOk_by (by rw [hN, hsc]; exact c1)
  have slot : ∀ {i : Nat} {x : Str}, slotB k i x = true → Y.N[i]? = some x := fun e => by rw [hN]; exact of_decide_eq_true e
  have ndY : Y.N.Nodup := by rw [hN]; exact nd
  have bsc : ∀ (s : Shared) (H : Hp) (C : Addr) (cls : List (Str × Addr)) (fp : List Addr), (Y.blk s H scope (compEnvC scope cls C Y.env) fp).env.scope = L2.relS scope sc := fun s H C cls fp => by
    show relabel scope Y.env = L2.relS scope sc
    rw [← hsc]
    rfl
  have nm : ∀ {i : Nat} {x : Str} {q : Pos}, slotB k i x = true → visB (L2.relS scope sc) x = true → okN x = true → ∀ (s : Shared) (H : Hp) (C : Addr) (cls : List (Str × Addr)) (fp : List Addr), PE (Y.blk s H scope (compEnvC scope cls C Y.env) fp) (.Name x q) (L2.tVar i) := fun e1 e2 e3 s H C cls fp =>
    L2.pe_var (slot e1) (by rw [bsc s H C cls fp]; exact vis_by e2) (okN_d e3).1 (okN_d e3).2
  have tg : ∀ {i : Nat} {x : Str} {q : Pos}, slotB k i x = true → locB (L2.relS scope sc) (some scope) x = true → ∀ (s : Shared) (H : Hp) (C : Addr) (cls : List (Str × Addr)) (fp : List Addr), PG (Y.blk s H scope (compEnvC scope cls C Y.env) fp) (.Name x q) (L2.gName i) := fun e1 e2 s H C cls fp => by
    obtain ⟨l1, l2⟩ := loc_by e2
    exact L2.pg_name ndY (slot e1) (by rw [bsc s H C cls fp]; exact l1) (l2.imp (fun z => z) fun z => by rw [bsc s H C cls fp]; exact z)
  have rule := pe_lcH (pos := pos) (g := L2.gTup Y.K 2 (L2.gCons (L2.gName iw) (L2.gCons (L2.gName ig) L2.gNil))) (tt := L2.tB (L2.tVar ig)) (te := L2.tVar iw) hot ndY hl hb
    (fun s H C cls fp hB => pg_tupH (pos := q4) (kk := kk) hB (L2.pgs_cons (tg (q := q2) c3 d1 s H C cls fp) (L2.pgs_cons (tg (q := q3) c4 d2 s H C cls fp) L2.pgs_nil)) rfl rfl)
    (fun s H C cls fp => L2.pts_one (L2.pt_val (nm (q := q5) c5 c7 c9 s H C cls fp)))
    (fun s H C cls fp => nm (q := q1) c2 c6 c8 s H C cls fp) (no_set d3)
  refine pe_imp rule fun σ H Q ⟨hlen, l, pre, hz, q⟩ => ?_
  rw [own_fst]
  refine ⟨l, pre, fun a ps H1 gr ha ka => ⟨a, rfl, ⟨_, .of ha⟩, fun D hD => ?_⟩⟩
  have iwl : iw < σ.length := by rw [hlen]; exact hw
  have igl : ig < σ.length := by rw [hlen]; exact hg
  have aD : a ≠ D := fun z => by rw [z, hD] at ha; cases ha
  refine ⟨fun i m J => m = l.length - i ∧ i ≤ l.length ∧ Grow H1 J ∧ J D = some (.lst ((sel (l.take i)).map V.str)), ⟨l.length, rfl, Nat.zero_le _, Grow.new hD, upd_same⟩, ?_⟩
  rintro i m J ⟨rfl, hi, g1, hJ⟩
  have ha' := g1 _ _ ha
  have ka' := ka.grow g1
  by_cases hlt : i < l.length
  · refine .inr ⟨⟨_, _, .of ha', List.getElem?_eq_getElem (by rw [List.length_map, ka.len]; exact hlt)⟩, fun J' => i + 1 ≤ l.length ∧ Grow H1 J' ∧ J' D = some (.lst ((sel (l.take (i + 1))).map V.str)), fun J' ⟨h1, h2, h3⟩ => ⟨l.length - (i + 1), by omega, rfl, h1, h2, h3⟩, ?_⟩
    rintro x J' ⟨rfl, hx⟩
    have ex := hx _ (.of ha')
    rw [List.getElem?_map] at ex
    cases ep : ps[i]? with
    | none => rw [ep] at ex; cases ex
    | some p =>
      rw [ep] at ex
      cases ex
      obtain ⟨w, b, e1, e2⟩ := ka'.at ep
      have etake : l.take (i + 1) = l.take i ++ [(w, b)] := by
        rw [List.take_add_one, e1]
        rfl
      refine ⟨p, _, rfl, .inl (.inl e2), rfl, _, _, rfl, _, _, rfl, rfl, wipe_set2, .bl b, ?_, b, rfl, ?_⟩
      · rw [List.getElem?_set_self]
        rw [List.length_set, L2.wipe_length]
        exact igl
      · rw [etake, sel_snoc]
        cases b with
        | false => exact ⟨hlt, g1, hJ⟩
        | true =>
          refine ⟨.str w, ?_, _, hJ, ?_, hlt, fun c o h => ?_, ?_⟩
          · rw [List.getElem?_set_ne (Ne.symm d4), List.getElem?_set_self]
            rw [L2.wipe_length]
            exact iwl
          · rw [List.length_map]
            have : (sel (l.take i)).length ≤ (l.take i).length := by
              unfold sel
              rw [List.length_map]
              exact List.length_filter_le _ _
            rw [List.length_take] at this
            omega
          · rw [upd_ne fun z => by rw [z, hD] at h; cases h]
            exact g1 c o h
          · rw [upd_same]
            simp
  · have e : l.take i = l := List.take_of_length_le (by omega)
    rw [e] at hJ
    exact .inl ⟨⟨_, .of ha', by rw [List.length_map, ka.len]; omega⟩, q D J (gr.trans g1) hJ⟩
end
end PX

/-! # PX: suites -/
namespace PX
open PySem PySem.Spec PyProof.Rows HotX
open L2 (V HO Hp upd SqT SqL Rd TE TT TA TS TI TG Cx PE PT PA PS PSs PI PG Inv upd_same upd_ne OpR CallR IxR RelV Vals Room Vis Gl Loc)
section
variable {K : PySem.W.Frag} {mg : Str → Option Value} {S : Gs} {CS : Addr} {js is : List Nat} {kit : Nat → Nat → Bool} {k : Ck} {good : D} {tbl : List (Nat × D)}
variable {Ng : List Str} {sc : Scope} {er : Str}
theorem pe_blt {Y : Cx} {x : Str} {T : String} {pc : Pos} (g : Gl Y x) (m : Y.mg x = none) (b : bootBuiltins x = some (.type T)) (hn : x ≠ "__name__") (hd : (x == ("__debug__" : Str)) = false) : PE Y (.Name x pc) (L2.tC (.ty T)) := L2.pe_bltn g m b rfl hn hd
/-- a name that holds such a list -/
theorem nameK {Y : Cx} {i : Nat} {x : Str} {p : Pos} (hi : Y.N[i]? = some x) (hv : Vis Y.env.scope x) (ho : okN x = true) : PE Y (.Name x p) (fun σ H R => ∃ l, (∃ a ps, σ[i]? = some (some (.ref a)) ∧ H a = some (.lst (ps.map V.ref)) ∧ Kat H ps l) ∧ ∀ a ps H1, Grow H H1 → H1 a = some (.lst (ps.map V.ref)) → Kat H1 ps l → R (.ref a) H1) :=
  pe_imp (L2.pe_var hi hv (okN_d ho).1 (okN_d ho).2) fun σ H R ⟨l, ⟨a, ps, h1, h2, h3⟩, q⟩ => ⟨.ref a, h1, q a ps H (Grow.refl H) h2 h3⟩
/-- kinds = [..]; return ' '.join([..]) if isinstance(error, ValueError) else 'odd' -/
def suiteAB (k : Ck) (sc : Scope) (er : Str) (l : List (Str × Nat)) (sep : Str) : List Stmt → Bool
  | [.Assign [.Name kn _] (.List es _) _, .Return (some (.IfExp (.Call (.Name f1 _) [.Name e1 _, .Name ve _] [] _) (.Call (.Attribute (.Constant (.str sp) _ _) jn ap) [lc] [] cp) (.Constant (.str _) _ _) _)) _] =>
    kindB k sc er l es && slotB k 2 kn && isLoc sc kn && visB sc kn && okN kn && decide (f1 = "isinstance") && glB sc f1 && decide (e1 = er) && decide (ve = "ValueError") && glB sc ve && decide (jn = "join") && decide (sp = sep) && (ap.endLine == cp.line) &&
      (match lcKB k sc 3 4 lc with | some (.Name k2 _) => decide (k2 = kn) | _ => false) && !isStar lc && decide (4 < k.N.length)
  | _ => false
theorem suiteA_ok (E : ErrC K S CS js is kit) (hK : S.K = K) (hl : tbl.map (·.1) = js) (en : ∀ i ∈ is, ∃ C x, k.en[i]? = some x ∧ mg x = some (.ref C) ∧ S.xa i = some (.ref C)) {l : List (Str × Nat)} {sep : Str} (hli : ∀ p ∈ l, p.2 ∈ is) (hlen : l.length < 1000)
    (hd : ∀ j ∈ js, ∀ d, tbl.lookup j = some d → d = .str (Txt.join sep (sel (kbs kit j l))) ∧ ((sel (kbs kit j l)).map (·.length)).sum + (sel (kbs kit j l)).length * sep.length ≤ 16777216)
    (hN : k.N = Ng) (nd : Ng.Nodup) (hi : Ng[1]? = some er) (hv : Vis sc er) (ho : okN er = true) (bl : ∀ x ∈ bnames, mg x = none) (hmv : mg "ValueError" = none) {suite : List Stmt} (ok : suiteAB k sc er l sep suite = true) :
    ∀ (Z : Cx), Z.K = K → Z.mg = mg → Z.N = Ng → Z.env.scope = sc → ∀ (e : Addr) (oe : Obj) (cls : Value) (d : Option Addr) (pn : List (Addr × Obj)), L2N.Zn cls d oe → (∃ vs, oe.data = .fields vs) → PSs (Z.suite e ((e, oe) :: pn)) suite (tSuite S (simpleF good tbl) e cls d) := by
  intro Z zK zm zN zs e oe cls d pn zn fl
  refine ⟨fun pins s σ H Dn I ⟨⟨σ0, hσ⟩, hb⟩ => ?_⟩
  obtain ⟨j, D, v, dd, hj, xj, rfl, rfl, hlk, hsv, hQ⟩ := bad_simple hl E hb
  obtain ⟨D', xj', EC, _, kv, kits⟩ := E.cls j hj
  rw [xj] at xj'
  cases xj'
  generalize hY : Z.suite e ((e, oe) :: pn) = Y at I ⊢
  have X : SuiteX K mg Ng sc er e D oe Y := ⟨⟨Z, pn, hY.symm⟩, by rw [← hY]; exact zK, by rw [← hY]; exact zm, by rw [← hY]; exact zN, by rw [← hY]; exact zs, zn, fl, hi, hv, ho, bl⟩
  have hlenσ : σ.length = k.N.length := by rw [I.len, X.hN, hN]
  unfold suiteAB at ok
  split at ok
  case h_2 => cases ok
  rename_i kn pkn es pes pas f1 pf1 e1 pe1 ve pve pc1 sp jsp psp jn ap lc cp od jod pod pif pret
  simp only [Bool.and_eq_true, Bool.not_eq_true', decide_eq_true_eq] at ok
  obtain ⟨⟨⟨⟨⟨⟨⟨⟨⟨⟨⟨⟨⟨⟨⟨o1, o2⟩, o3⟩, o4⟩, o5⟩, o6⟩, o7⟩, o8⟩, o9⟩, u1⟩, u2⟩, u3⟩, u4⟩, u5⟩, u6⟩, u7⟩ := ok
  subst o6 o9 u2 u3
  have slot1 : σ[1]? = some (some (V.ref e)) := by
    rw [hσ, List.getElem?_set_self]
    have : σ.length = σ0.length := by rw [hσ, List.length_set]
    omega
  have glv : Gl Y "ValueError" := by
    have z := of_decide_eq_true u1
    rw [← X.hsc] at z
    exact z
  have ndY : Y.N.Nodup := by rw [X.hN]; exact nd
  have sl2 : Y.N[2]? = some kn := by rw [X.hN, ← hN]; exact of_decide_eq_true o2
  have l1 := isLoc_ok o3
  have kin : ∀ i ∈ is, ∃ C x, k.en[i]? = some x ∧ mg x = some (.ref C) ∧ PySem.W.kitOne K (.ref D) (.ref C) = some (kit j i) := fun i hi => by
    obtain ⟨C, x, q1, q2, q3⟩ := en i hi
    obtain ⟨C', q4, q5⟩ := kits i hi
    rw [q3] at q4
    cases q4
    exact ⟨C, x, q1, q2, q5⟩
  have hvK : PE Y (.Name "ValueError" pve) (L2.tC (.ty "ValueError")) := pe_blt glv (by rw [X.hmg]; exact hmv) (by decide +kernel) (by decide) (by decide)
  have test := isE_ok (p := pf1) (p1 := pe1) (pos := pc1) X EC o7 hvK (fun u r => r) kv
  split at u5
  case h_2 => cases u5
  rename_i k2 pk2 elc
  have u5 := of_decide_eq_true u5
  subst u5
  have walk := lcK (Y := Y) X.hot (X.hN.trans hN.symm) (by rw [hN]; exact nd) X.hsc elc (by omega) (by omega) (nameK (i := 2) (p := pk2) sl2 (by rw [X.hsc]; exact vis_by o4) o5)
  subst o8
  have go := L2.pss_cons (L2.ps_set (pos := pas) (pos' := pkn) ndY sl2 (.inl (by rw [X.hsc]; exact l1)) (L2.pe_lst (pos := pes) (kinds_pa X EC kin l es o1 hli)) (sw_none rfl) (.inr (by rw [X.hsc]; exact l1)))
    (L2.pss_one (L2.ps_ret (pos := pret) (L2.pe_ifExp (pos := pif) (L2.pt_val test) (L2.pe_join (L2.pe_str (x := sp) (j := jsp) (pos := psp)) walk (star_cons u6) (by rfl) u4) (L2.pe_str (x := od) (j := jod) (pos := pod)))))
  refine go.run pins s σ H Dn I ?_
  refine ⟨slot1, fun ps H1 g1 ka => ⟨?_, fun q hq => ?_⟩⟩
  · rw [List.length_map, ka.len, kbs, List.length_map, sizeLine_eq]
    omega
  · have s1 : (σ.set 2 (some (V.ref q)))[1]? = some (some (V.ref e)) := by
      rw [List.getElem?_set_ne (by decide)]
      exact slot1
    refine ⟨s1, true, rfl, ?_⟩
    refine ⟨⟨_, rfl⟩, by rw [List.length_set]; exact hlenσ, kbs kit j l, ⟨q, ps, ?_, upd_same, ka.grow (Grow.new hq)⟩, ?_, fun D2 H2 g2 h2 => ?_⟩
    · rw [List.getElem?_set_self]
      omega
    · rw [kbs, List.length_map, sizeLine_eq]
      omega
    · obtain ⟨hdd, hsz⟩ := hd j hj dd hlk
      subst hdd
      cases hsv
      exact ⟨_, D2, _, rfl, rfl, .inl (.of h2), hsz, hQ _ ((g1.trans (Grow.new hq)).trans g2)⟩
end
end PX

/-! # PX: a trying def that tells kinds -/
namespace PX
open PySem PySem.Spec PyProof.Rows HotX
open L2 (V HO Hp upd SqT SqL Rd TE TT TA TS TI TG Cx PE PT PA PS PSs PI PG Inv upd_same upd_ne OpR CallR IxR RelV Vals Room Vis Gl Loc)
theorem lookup_pair {α β : Type} [BEq α] [LawfulBEq α] {a : α} {b : β} : ∀ {l : List (α × β)}, l.lookup a = some b → (a, b) ∈ l
  | [], h => by cases h
  | (x, y) :: l, h => by
    rw [List.lookup_cons] at h
    cases e : (a == x) with
    | true =>
      rw [e] at h
      cases h
      rw [eq_of_beq e]
      exact List.mem_cons_self
    | false =>
      rw [e] at h
      exact List.mem_cons_of_mem _ (lookup_pair h)
theorem bad_sc {good : D} {tbl : List (Nat × D)} (h : tbl.all (fun p => (scV p.2).isSome) = true) : ∀ x d, (simpleF good tbl).bad x = some d → ∃ v, scV d = some v := fun x d e => by
  have e : (if x.args.isEmpty then tbl.lookup x.cls else none) = some d := e
  split at e
  · have hm := lookup_pair e
    exact Option.isSome_iff_exists.mp (List.all_eq_true.mp h _ hm)
  · cases e
/-- the text of a trying def with one clause -/
def tryB (sg : Scope) (cs er : Str) (good : D) : List Stmt → Option (List Stmt)
  | [.Try [.Expr (.Call (.Name a _) [] [] _) _] [.ExceptHandler (some (.Name en _)) (some e2) (b0 :: suite) _] [] [] _, .Return (some (.Constant g _ _)) _] =>
    if decide (a = "call") && decide (en = cs) && decide (e2 = er) && isLoc sg er && glB sg cs && okN cs && (match good, g with | .str x, .str y => decide (x = y) | .bl x, .bool y => decide (x = y) | _, _ => false) then some (b0 :: suite) else none
  | _ => none
section
variable {K : PySem.W.Frag} {mg : Str → Option Value} {S : Gs} {CS : Addr} {js is : List Nat} {kit : Nat → Nat → Bool} {good : D} {tbl : List (Nat × D)} {Ng : List Str} {sg : Scope} {er cs : Str}
theorem gives_by {X : Cx} {x q : Str} {g : Addr} {cdg : Value} {bg su : List Stmt} {gv : V} (h : tryB sg cs er good bg = some su) (E : ErrC X.K S CS js is kit) (hl : tbl.map (·.1) = js) (nd : Ng.Nodup) (h0 : Ng[0]? = some ("call" : Str)) (hlen : 0 < Ng.length) (hi : Ng[1]? = some er) (hm : X.mg cs = some (.ref CS)) (hgood : scV good = some gv)
    (hsu : ∀ (Z : Cx), Z.K = X.K → Z.mg = X.mg → Z.N = Ng → Z.env.scope = sg → ∀ (e : Addr) (oe : Obj) (cls : Value) (d : Option Addr) (pn : List (Addr × Obj)), L2N.Zn cls d oe → (∃ vs, oe.data = .fields vs) → PSs (Z.suite e ((e, oe) :: pn)) su (tSuite S (simpleF good tbl) e cls d)) :
    Gives X Ng x sg g cdg bg "call" q (toldF S (simpleF good tbl)) := by
  unfold tryB at h
  split at h
  case h_2 => cases h
  rename_i a p1 p2 p3 en p4 e2 b0 suite p5 p6 gc jg p7 p8
  obtain ⟨hc, hsub⟩ := ite_some h
  subst hsub
  clear h
  simp only [Bool.and_eq_true, decide_eq_true_eq] at hc
  obtain ⟨⟨⟨⟨⟨⟨c1, c2⟩, c3⟩, c4⟩, c5⟩, c6⟩, c7⟩ := hc
  subst c1 c2 c3
  refine gives_one E hl nd (fun f => ?_) hi (isLoc_ok c4) (of_decide_eq_true c5) (okN_d c6).1 hm hgood (fun Y => ?_) hsu
  · rfl
  · split at c7
    · have c7 := of_decide_eq_true c7
      subst c7
      cases hgood
      exact L2.pe_str
    · have c7 := of_decide_eq_true c7
      subst c7
      cases hgood
      exact L2.pe_bl
    · cases c7
end
def hdB (js : List Nat) (kit : Nat → Nat → Bool) (tbl : List (Nat × D)) (l : List (Str × Nat)) (sep : Str) : Bool := js.all fun j => match tbl.lookup j with
  | some (.str s) => decide (s = Txt.join sep (sel (kbs kit j l))) && decide (((sel (kbs kit j l)).map (·.length)).sum + (sel (kbs kit j l)).length * sep.length ≤ 16777216)
  | none => true
  | _ => false
theorem hd_by {js : List Nat} {kit : Nat → Nat → Bool} {tbl : List (Nat × D)} {l : List (Str × Nat)} {sep : Str} (h : hdB js kit tbl l sep = true) : ∀ j ∈ js, ∀ d, tbl.lookup j = some d → d = .str (Txt.join sep (sel (kbs kit j l))) ∧ ((sel (kbs kit j l)).map (·.length)).sum + (sel (kbs kit j l)).length * sep.length ≤ 16777216 := fun j hj d e => by
  have z := List.all_eq_true.mp h j hj
  rw [e] at z
  cases d <;> first | (cases z; done) | skip
  simp only [Bool.and_eq_true, decide_eq_true_eq] at z
  exact ⟨by rw [z.1], z.2⟩
theorem some_getD {α : Type} {o : Option α} {d : α} (h : o.isSome = true) : o = some (o.getD d) := by
  cases o with
  | none => cases h
  | some a => rfl
/-- all of such a def -/
theorem fltA {K : PySem.W.Frag} {mg : Str → Option Value} {S : Gs} {CS : Addr} {js is : List Nat} {kit : Nat → Nat → Bool} {tbl : List (Nat × D)} {Ng : List Str} {er cs x sep : Str} {st : Stmt} {k : Ck} {kinds : List (Str × Nat)} {gd : Str} {a : Addr} {oc kV dc pm cd ct : Value} {od an : Option Addr} {sl : Array (Option Value)}
    (t0 : (tryB (L2.defScope st) cs er (.str gd) (L2.defBody st)).isSome = true) (t1 : suiteAB k (L2.defScope st) er kinds sep ((tryB (L2.defScope st) cs er (.str gd) (L2.defBody st)).getD []) = true) (t2 : C8.scC Ng ["call"] (L2.defScope st) = true)
    (t3 : (visB (L2.defScope st) "call" && visB (L2.defScope st) er && okN er && tbl.all (fun p => (scV p.2).isSome) && kinds.all (fun p => decide (p.2 ∈ is)) && decide (kinds.length < 1000) && decide (Ng[0]? = some ("call" : Str)) && decide (Ng[1]? = some er) && hdB js kit tbl kinds sep && decide (tbl.map (·.1) = js)) = true) (hN : k.N = Ng)
    (hb : ∀ (kV doc pm : Value) (an : Option Addr) (cdv ct : Value) (us : List Value), us.length = (["call"] : List Str).length → bindArgs (PySem.W.fnOf x x (L2.defArgs st) (L2.defBody st) (L2.defScope st) .none kV doc pm an cdv ct) ⟨us, []⟩ = pure ((["call"] : List Str).zip us))
    (g : mg x = some (.ref a)) (kp : PySem.W.keepIn K (.ref a) = true) (lk : K.lookup a = some ⟨oc, od, .func (PySem.W.fnOf x x (L2.defArgs st) (L2.defBody st) (L2.defScope st) .none kV dc pm an cd ct), sl⟩) (c : PySem.W.codeIn K cd x = true)
    (hm : mg cs = some (.ref CS)) (E : ErrC K S CS js is kit) (hK : S.K = K) (en : ∀ i ∈ is, ∃ C y, k.en[i]? = some y ∧ mg y = some (.ref C) ∧ S.xa i = some (.ref C)) (bl : ∀ x ∈ bnames, mg x = none) (hmv : mg "ValueError" = none) : FltF K mg S x (simpleF (.str gd) tbl) := by
  simp only [Bool.and_eq_true, decide_eq_true_eq] at t3
  obtain ⟨⟨⟨⟨⟨⟨⟨⟨⟨u1, u2⟩, u3⟩, u4⟩, u5⟩, u6⟩, u7⟩, u8⟩, u9⟩, u10⟩ := t3
  have nd := (C8.fnScope_by t2).nd
  refine ⟨⟨_, rfl⟩, bad_sc u4, a, "call", _, _, _, _, _, _, _, _, _, _, _, _, Ng, g, kp, lk, c, .all (hb kV dc pm an cd ct), C8.fnScope_by t2, u7, vis_by u1, by decide +kernel, fun X q hX hX' => ?_⟩
  subst hX hX'
  have hli : ∀ p ∈ kinds, p.2 ∈ is := fun p hp => of_decide_eq_true (List.all_eq_true.mp u5 p hp)
  refine gives_by (some_getD (d := []) t0) E u10 nd u7 ?_ u8 hm rfl (suiteA_ok (k := k) (sc := L2.defScope st) E hK u10 en hli u6 (hd_by u9) hN nd u8 (vis_by u2) u3 bl hmv t1)
  cases Ng with
  | nil => cases u7
  | cons _ _ => exact Nat.succ_pos _
end PX

/-! # PX: plain lemmas for the laws -/
namespace PX
open PySem
theorem lcGo_pure {f : D → C → R (Option D)} {c : C} {h : D → Option D} : ∀ (xs acc : List D), (∀ x ∈ xs, f x c = .ok (h x) c) → acc.length + xs.length ≤ szl → lcGo f xs acc c = .ok (.own (acc ++ (xs.filterMap h).map norm)) c
  | [], acc, _, _ => by simp [lcGo]
  | x :: xs, acc, hf, hz => by
    rw [lcGo, hf x List.mem_cons_self]
    simp only [List.length_cons] at hz
    cases e : h x with
    | none =>
      show lcGo f xs acc c = _
      rw [lcGo_pure xs acc (fun y hy => hf y (List.mem_cons_of_mem _ hy)) (by omega), List.filterMap_cons, e]
    | some y =>
      show (if acc.length < szl then lcGo f xs (acc ++ [norm y]) c else .no) = _
      rw [if_pos (by omega), lcGo_pure xs _ (fun y hy => hf y (List.mem_cons_of_mem _ hy)) (by simp; omega), List.filterMap_cons, e]
      simp
theorem forGo_inv {body : D → Env → C → RS} (I : Nat → Env → C → Prop) : ∀ (xs : List D) (i : Nat) (env : Env) (c : C), (∀ (j : Nat) (x : D) (env : Env) (c : C), xs[j]? = some x → I (i + j) env c → ∃ e' c', body x env c = .ok .nx e' c' ∧ I (i + j + 1) e' c') → I i env c → ∃ e' c', forGo body xs env c = .ok .nx e' c' ∧ I (i + xs.length) e' c'
  | [], i, env, c, _, hi => ⟨env, c, rfl, hi⟩
  | x :: xs, i, env, c, hs, hi => by
    obtain ⟨e1, c1, h1, h2⟩ := hs 0 x env c rfl hi
    obtain ⟨e2, c2, h3, h4⟩ := forGo_inv I xs (i + 1) e1 c1 (fun j y env c hy hI => by
      have := hs (j + 1) y env c (by simpa using hy) (by rw [show i + (j + 1) = i + 1 + j by omega]; exact hI)
      rw [show i + (j + 1) + 1 = i + 1 + j + 1 by omega] at this
      exact this) h2
    refine ⟨e2, c2, ?_, by rw [List.length_cons, show i + (xs.length + 1) = i + 1 + xs.length by omega]; exact h4⟩
    rw [forGo, h1]
    exact h3
theorem rngI_at {lo : Int} {n j : Nat} {x : D} (h : (rngI lo n)[j]? = some x) : j < n ∧ x = .int (lo + j) := by
  unfold rngI at h
  rw [List.getElem?_map] at h
  by_cases e : j < n
  · rw [List.getElem?_range e] at h
    exact ⟨e, (Option.some.inj h).symm⟩
  · rw [List.getElem?_eq_none (by simpa using e)] at h
    cases h
theorem rngI_mem {lo : Int} {n : Nat} {x : D} (h : x ∈ rngI lo n) : ∃ j : Nat, j < n ∧ x = .int (lo + j) := by
  unfold rngI at h
  obtain ⟨j, hj, e⟩ := List.mem_map.mp h
  exact ⟨j, List.mem_range.mp hj, e.symm⟩
theorem rngI_length {lo : Int} {n : Nat} : (rngI lo n).length = n := by simp [rngI]
theorem atI_nat {α : Type} {xs : List α} {r : Int} (h0 : 0 ≤ r) (h : r < xs.length) : L2.atI xs r = xs[r.toNat]? := by
  simp [L2.atI, L2.ixN, h0, h]
theorem atI_last {α : Type} {xs : List α} (h : 0 < xs.length) : L2.atI xs (-1) = xs[xs.length - 1]? := by
  have h1 : ¬ (0 : Int) ≤ -1 := by omega
  have h2 : -(xs.length : Int) ≤ -1 := by omega
  have h3 : ((-1 : Int) + xs.length).toNat = xs.length - 1 := by omega
  unfold L2.atI L2.ixN
  rw [if_neg h1, if_pos h2]
  show xs[((-1 : Int) + xs.length).toNat]? = _
  rw [h3]
theorem boolsD_true {n : Nat} : boolsD (List.replicate n (.bl true)) = some (List.replicate n true) := by
  induction n with
  | zero => rfl
  | succ n ih => rw [List.replicate_succ, boolsD, ih]; rfl
theorem rngv1_nat {k : Nat} (h : k < 1000000000) : rngv1 (.int (k : Int)) = some (rngI 0 k) := by
  have h1 : -(2 ^ 62) ≤ (k : Int) ∧ (k : Int) < 2 ^ 62 := ⟨by omega, by omega⟩
  simp only [rngv1]
  rw [if_pos h1, Int.toNat_natCast]
theorem rngv1_int {i : Int} (h : 0 ≤ i ∧ i < 1000000000) : rngv1 (.int i) = some (rngI 0 i.toNat) := by
  have h1 : -(2 ^ 62) ≤ i ∧ i < 2 ^ 62 := ⟨by omega, by omega⟩
  simp only [rngv1]
  rw [if_pos h1]
theorem rngv2_int {i j : Int} (h : 0 ≤ i ∧ i < 1000000000000 ∧ 0 ≤ j ∧ j < 1000000000000) : rngv2 (.int i) (.int j) = some (rngI i (j - i).toNat) := by
  have h1 : -(2 ^ 62) ≤ i ∧ i < 2 ^ 62 ∧ -(2 ^ 62) ≤ j ∧ j < 2 ^ 62 := ⟨by omega, by omega, by omega, by omega⟩
  simp only [rngv2]
  rw [if_pos h1]
/-! ### big steps: each with its parts as given facts (the kernel is not to compute with a list's length) -/
section
variable {T : Tab} {cl : Cl} {env env' : PX.Env} {c c' c2 : C} {a b t e : E} {x y d : D} {s : PX.S} {r : List PX.S}
theorem bs_bin {o : Bop} (h1 : ev T cl a env c = .ok x c') (h2 : ev T cl b env c' = .ok y c2) (h : binv o x y = some d) : ev T cl (.bin o a b) env c = .ok d c2 := by
  simp only [ev, h1, h2, R.bind, h, lift]
theorem bs_neg {i : Int} (h1 : ev T cl a env c = .ok (.int i) c') : ev T cl (.neg a) env c = .ok (.int (-i)) c' := by
  simp only [ev, h1, R.bind]
theorem bs_cmp {o : Cop} {k : Bool} (h1 : ev T cl a env c = .ok x c') (h2 : ev T cl b env c' = .ok y c2) (h : cmpv o x y = some k) : ev T cl (.cmp o a b) env c = .ok (.bl k) c2 := by
  simp only [ev, h1, h2, R.bind, h, lift, Option.map_some]
theorem bs_cmpT {o : Cop} {k : Bool} (h1 : ev T cl a env c = .ok x c') (h2 : ev T cl b env c' = .ok y c2) (h : cmpv o x y = some k) : evt T cl (.cmp o a b) env c = .ok k c2 := by
  simp only [evt, h1, h2, R.bind, h, lift]
theorem bs_ix {i : Int} (h1 : ev T cl a env c = .ok x c') (h2 : ev T cl b env c' = .ok (.int i) c2) (h : ixv x i c2 = some d) : ev T cl (.ix a b) env c = .ok d c2 := by
  simp only [ev, h1, h2, R.bind, h, lift]
theorem bs_b1 {f : B1} (h1 : ev T cl a env c = .ok x c') (h : b1v f x = some d) : ev T cl (.b1 f a) env c = .ok d c' := by
  simp only [ev, h1, R.bind, h, lift]
theorem bs_b2 {f : B2} (h1 : ev T cl a env c = .ok x c') (h2 : ev T cl b env c' = .ok y c2) (h : b2v f x y = some d) : ev T cl (.b2 f a b) env c = .ok d c2 := by
  simp only [ev, h1, h2, R.bind, h, lift]
theorem bs_notT {k : Bool} (h1 : evt T cl a env c = .ok k c') : evt T cl (.not a) env c = .ok (!k) c' := by
  simp only [evt, h1, R.bind]
theorem bs_ifeT (h1 : evt T cl t env c = .ok true c') (h2 : ev T cl a env c' = .ok x c2) : ev T cl (.ife t a b) env c = .ok x c2 := by
  simp only [ev, h1, R.bind, if_true, h2]
theorem bs_ifeF (h1 : evt T cl t env c = .ok false c') (h2 : ev T cl b env c' = .ok x c2) : ev T cl (.ife t a b) env c = .ok x c2 := by
  simp only [ev, h1, R.bind, if_false, Bool.false_eq_true, h2]
theorem bs_nil : evs T cl [] env c = .ok [] c := by simp only [evs]
theorem bs_cons {es : List E} {xs : List D} (h1 : ev T cl e env c = .ok x c') (h2 : evs T cl es env c' = .ok xs c2) : evs T cl (e :: es) env c = .ok (x :: xs) c2 := by
  simp only [evs, h1, h2, R.bind]
theorem bs_tup {es : List E} {xs : List D} (h1 : evs T cl es env c = .ok xs c') (h : xs.length ≤ szl) : ev T cl (.tup es) env c = .ok (.tup (xs.map norm)) c' := by
  simp only [ev, h1, R.bind]
  rw [if_pos h]
theorem bs_lst {es : List E} {xs : List D} (h1 : evs T cl es env c = .ok xs c') (h : xs.length ≤ szl) : ev T cl (.lst es) env c = .ok (.own (xs.map norm)) c' := by
  simp only [ev, h1, R.bind]
  rw [if_pos h]
theorem bs_call {j : Nat} {es : List E} {xs : List D} {r : R D} (h1 : evs T cl es env c = .ok xs c') (h : cl j (xs.map norm) c' = r) : ev T cl (.call j es) env c = r := by
  simp only [ev, h1, R.bind, h]
theorem bs_callT {j : Nat} {es : List E} {xs : List D} {k : Bool} (h1 : evs T cl es env c = .ok xs c') (h : cl j (xs.map norm) c' = .ok (.bl k) c2) : evt T cl (.call j es) env c = .ok k c2 := by
  simp only [evt, h1, R.bind, h, truth, lift]
theorem bs_itr {xs : List D} (h1 : ev T cl a env c = .ok x c') (h : items x = some xs) : evi T cl (.itr a) env c = .ok (xs.map norm) c' := by
  simp only [evi, h1, R.bind, h, lift, Option.map_some]
theorem bs_rng1 {xs : List D} (h1 : ev T cl a env c = .ok x c') (h : rngv1 x = some xs) : evi T cl (.rng1 a) env c = .ok xs c' := by
  simp only [evi, h1, R.bind, h, lift]
theorem bs_rng2 {xs : List D} (h1 : ev T cl a env c = .ok x c') (h2 : ev T cl b env c' = .ok y c2) (h : rngv2 x y = some xs) : evi T cl (.rng2 a b) env c = .ok xs c2 := by
  simp only [evi, h1, h2, R.bind, h, lift]
/-- a comprehension in which nothing is drawn -/
theorem bs_lc {elt it : E} {tg : Tg} {cond : List E} {own : List Nat} {xs : List D} (g : D → Option D) (h1 : evi T cl it env c = .ok xs c') (ho : own.all (noOwn env) = true) (hz : xs.length ≤ szl)
    (hx : ∀ x ∈ xs, ∃ e2 b, tgt tg x (wipes env own) = some e2 ∧ evc T cl cond e2 c' = .ok b c' ∧ (b = true → ∃ y, ev T cl elt e2 c' = .ok y c' ∧ g x = some y) ∧ (b = false → g x = none)) :
    ev T cl (.lc elt tg it cond own) env c = .ok (.own ((xs.filterMap g).map norm)) c' := by
  simp only [ev, h1, R.bind, ho, if_true]
  rw [lcGo_pure (h := g) _ _ _ (by simpa using hz)]
  · rw [List.nil_append]
  · intro x hm
    obtain ⟨e2, b, q1, q2, q3, q4⟩ := hx x hm
    simp only [q1, q2]
    cases b with
    | true =>
      obtain ⟨y, q5, q6⟩ := q3 rfl
      simp only [if_true, q5, q6]
    | false => simp only [if_false, Bool.false_eq_true, q4 rfl]
theorem bs_andTT {es : List E} {k : Bool} (h1 : evt T cl e env c = .ok true c') (hne : es ≠ []) (h2 : evt T cl (.and es) env c' = .ok k c2) : evt T cl (.and (e :: es)) env c = .ok k c2 := by
  simp only [evt] at h2 ⊢
  cases es with
  | nil => exact absurd rfl hne
  | cons f es =>
    rw [evtand]
    · simp only [h1, R.bind, if_true, h2]
    · intro z; cases z
theorem bs_andTF {es : List E} (h1 : evt T cl e env c = .ok false c') (hne : es ≠ []) : evt T cl (.and (e :: es)) env c = .ok false c' := by
  simp only [evt]
  cases es with
  | nil => exact absurd rfl hne
  | cons f es =>
    rw [evtand]
    · simp only [h1, R.bind, if_false, Bool.false_eq_true]
    · intro z; cases z
theorem bs_and1 {r : R Bool} (h1 : evt T cl e env c = r) : evt T cl (.and [e]) env c = r := by simp only [evt, evtand, h1]
theorem bs_orTF {es : List E} {k : Bool} (h1 : evt T cl e env c = .ok false c') (hne : es ≠ []) (h2 : evt T cl (.or es) env c' = .ok k c2) : evt T cl (.or (e :: es)) env c = .ok k c2 := by
  simp only [evt] at h2 ⊢
  cases es with
  | nil => exact absurd rfl hne
  | cons f es =>
    rw [evtor]
    · simp only [h1, R.bind, if_false, Bool.false_eq_true, h2]
    · intro z; cases z
theorem bs_or1 {r : R Bool} (h1 : evt T cl e env c = r) : evt T cl (.or [e]) env c = r := by simp only [evt, evtor, h1]
/-! statements -/
theorem bs_asg {i : Nat} (h1 : ev T cl e env c = .ok x c') : evS T cl (.asg i e) env c = .ok .nx (env.set i (some x)) c' := by simp only [evS, h1, RS.of]
theorem bs_ex (h1 : ev T cl e env c = .ok x c') : evS T cl (.ex e) env c = .ok .nx env c' := by simp only [evS, h1, RS.of]
theorem bs_tas {t : Tg} (h1 : ev T cl e env c = .ok x c') (h2 : tgt t x env = some env') : evS T cl (.tas t e) env c = .ok .nx env' c' := by simp only [evS, h1, RS.of, h2]
theorem bs_sifT {p q : List PX.S} (h1 : evt T cl t env c = .ok true c') : evS T cl (.ife t p q) env c = evSs T cl p env c' := by simp only [evS, h1, RS.ofs, if_true]
theorem bs_sifF {p q : List PX.S} (h1 : evt T cl t env c = .ok false c') : evS T cl (.ife t p q) env c = evSs T cl q env c' := by simp only [evS, h1, RS.ofs, if_false, Bool.false_eq_true]
theorem bs_s0 : evSs T cl [] env c = .ok .nx env c := by simp only [evSs]
theorem bs_s1 (h1 : evS T cl s env c = .ok .nx env' c') : evSs T cl (s :: r) env c = evSs T cl r env' c' := by simp only [evSs, h1, RS.then]
theorem bs_sr (h1 : evS T cl s env c = .ok (.rt d) env' c') : evSs T cl (s :: r) env c = .ok (.rt d) env' c' := by simp only [evSs, h1, RS.then]
theorem bs_fz {is : List Nat} {q : RS} (h1 : evS T cl s (frz env is) c = q) : evS T cl (.fz is s) env c = q := by simp only [evS, h1]
theorem bs_ret (h0 : ∀ i, e ≠ .vb i) (h1 : ev T cl e env c = .ok x c') : evS T cl (.ret e) env c = .ok (.rt x) env c' := by
  cases e <;> first | exact absurd rfl (h0 _) | simp only [evS, h1, RS.of]
theorem bs_for {t : Tg} {it : E} {p : List PX.S} {xs : List D} (h1 : evi T cl it env c = .ok xs c') : evS T cl (.fr t it p) env c = forGo (fun x env c => match tgt t x env with | some e2 => evSs T cl p e2 c | none => .no) xs env c' := by
  simp only [evS, h1, RS.ofs] <;> rfl
theorem bs_int {n : Int} : ev T cl (.int n) env c = .ok (.int n) c := by simp only [ev]
theorem bs_bl {k : Bool} : ev T cl (.bl k) env c = .ok (.bl k) c := by simp only [ev]
theorem bs_non : ev T cl .non env c = .ok .non c := by simp only [ev]
theorem bs_str {z : Str} : ev T cl (.str z) env c = .ok (.str z) c := by simp only [ev]
theorem bs_gl {j : Nat} (h : T.consts[j]? = some d) : ev T cl (.gl j) env c = .ok d c := by simp only [ev, h, lift]
theorem bs_v {i : Nat} (h : env[i]? = some (some d)) (n : ∀ ds, d ≠ .own ds) : ev T cl (.v i) env c = .ok d c := by simp only [ev, h]
theorem bs_vb {i : Nat} (h : env[i]? = some (some d)) : ev T cl (.vb i) env c = .ok (norm d) c := by simp only [ev, h]
theorem bs_isi {u : Ty} {k : Bool} (h1 : ev T cl a env c = .ok x c') (h : isiv x u = some k) : ev T cl (.isi a u) env c = .ok (.bl k) c' := by simp only [ev, h1, R.bind, h, lift, Option.map_some]
theorem bs_isiT {u : Ty} {k : Bool} (h1 : ev T cl a env c = .ok x c') (h : isiv x u = some k) : evt T cl (.isi a u) env c = .ok k c' := by simp only [evt, h1, R.bind, h, lift]
theorem bs_not {k : Bool} (h1 : ev T cl a env c = .ok x c') (h : truth x = some k) : ev T cl (.not a) env c = .ok (.bl !k) c' := by simp only [ev, h1, R.bind, h, lift, Option.map_some]
theorem bs_aT {es : List E} {q : R D} (h1 : ev T cl e env c = .ok (.bl true) c') (hne : es ≠ []) (h2 : ev T cl (.and es) env c' = q) : ev T cl (.and (e :: es)) env c = q := by
  simp only [ev] at h2 ⊢
  cases es with
  | nil => exact absurd rfl hne
  | cons f es =>
    rw [evand]
    · simp only [h1, R.bind, h2]
    · intro z; cases z
theorem bs_aF {es : List E} (h1 : ev T cl e env c = .ok (.bl false) c') (hne : es ≠ []) : ev T cl (.and (e :: es)) env c = .ok (.bl false) c' := by
  simp only [ev]
  cases es with
  | nil => exact absurd rfl hne
  | cons f es =>
    rw [evand]
    · simp only [h1, R.bind]
    · intro z; cases z
theorem bs_a1 {q : R D} (h1 : ev T cl e env c = q) : ev T cl (.and [e]) env c = q := by simp only [ev, evand, h1]
theorem bs_chain {o p : Cop} {z : D} {k : Bool} {c3 : C} (h1 : ev T cl a env c = .ok x c') (h2 : ev T cl b env c' = .ok y c2) (h3 : cmpv o x y = some true) (h4 : ev T cl e env c2 = .ok z c3) (h5 : cmpv p y z = some k) : ev T cl (.chain o p a b e) env c = .ok (.bl k) c3 := by simp only [ev, h1, h2, R.bind, h3, h4, h5, lift, Option.map_some]
theorem bs_chainF {o p : Cop} (h1 : ev T cl a env c = .ok x c') (h2 : ev T cl b env c' = .ok y c2) (h3 : cmpv o x y = some false) : ev T cl (.chain o p a b e) env c = .ok (.bl false) c2 := by simp only [ev, h1, h2, R.bind, h3]
theorem bs_chainT {o p : Cop} {z : D} {k : Bool} {c3 : C} (h1 : ev T cl a env c = .ok x c') (h2 : ev T cl b env c' = .ok y c2) (h3 : cmpv o x y = some true) (h4 : ev T cl e env c2 = .ok z c3) (h5 : cmpv p y z = some k) : evt T cl (.chain o p a b e) env c = .ok k c3 := by simp only [evt, h1, h2, R.bind, h3, h4, h5, lift]
theorem bs_chainTF {o p : Cop} (h1 : ev T cl a env c = .ok x c') (h2 : ev T cl b env c' = .ok y c2) (h3 : cmpv o x y = some false) : evt T cl (.chain o p a b e) env c = .ok false c2 := by simp only [evt, h1, h2, R.bind, h3]
theorem rt_out {s : List PX.S} {e2 : PX.Env} (h : evSs T cl s env c = .ok (.rt d) e2 c2) : (evSs T cl s env c).out = .ok d c2 := by rw [h]; rfl
theorem nx_out {s : List PX.S} {e2 : PX.Env} (h : evSs T cl s env c = .ok .nx e2 c2) : (evSs T cl s env c).out = .ok .non c2 := by rw [h]; rfl
end
end PX

/-! # PX: what a tree does, told backwards: We e env c Q says that e comes to a value of which Q holds -/
namespace PX
open PySem
section
variable (T : Tab) (cl : Cl)
def We (e : E) (env : Env) (c : C) (Q : D → C → Prop) : Prop := ∃ d c', ev T cl e env c = .ok d c' ∧ Q d c'
def Wt (e : E) (env : Env) (c : C) (Q : Bool → C → Prop) : Prop := ∃ d c', evt T cl e env c = .ok d c' ∧ Q d c'
def Wes (es : List E) (env : Env) (c : C) (Q : List D → C → Prop) : Prop := ∃ d c', evs T cl es env c = .ok d c' ∧ Q d c'
def Wi (e : E) (env : Env) (c : C) (Q : List D → C → Prop) : Prop := ∃ d c', evi T cl e env c = .ok d c' ∧ Q d c'
def Wo (e : E) (env : Env) (c : C) (Q : Option Int → C → Prop) : Prop := ∃ d c', evo T cl e env c = .ok d c' ∧ Q d c'
def WS (s : S) (env : Env) (c : C) (N : Env → C → Prop) (R : D → C → Prop) (B K : Env → C → Prop) : Prop :=
  ∃ f e' c', evS T cl s env c = .ok f e' c' ∧ (match f with | .nx => N e' c' | .rt d => R d c' | .bk => B e' c' | .ct => K e' c')
def WSs (s : List S) (env : Env) (c : C) (N : Env → C → Prop) (R : D → C → Prop) (B K : Env → C → Prop) : Prop :=
  ∃ f e' c', evSs T cl s env c = .ok f e' c' ∧ (match f with | .nx => N e' c' | .rt d => R d c' | .bk => B e' c' | .ct => K e' c')
def WFor (t : Tg) (b : List S) (xs : List D) (env : Env) (c : C) (N : Env → C → Prop) (R : D → C → Prop) : Prop :=
  ∃ f e' c', forGo (fun x env c => match tgt t x env with | some e2 => evSs T cl b e2 c | none => .no) xs env c = .ok f e' c' ∧ (match f with | .nx => N e' c' | .rt d => R d c' | _ => False)
def WWh (t : E) (b : List S) (n : Nat) (env : Env) (c : C) (N : Env → C → Prop) (R : D → C → Prop) : Prop :=
  ∃ f e' c', whileGo (fun env c => evt T cl t env c) (fun env c => evSs T cl b env c) n env c = .ok f e' c' ∧ (match f with | .nx => N e' c' | .rt d => R d c' | _ => False)
def WLc (elt : E) (tg : Tg) (cond : List E) (own : List Nat) (xs : List D) (env : Env) (c : C) (Q : D → C → Prop) : Prop :=
  ∃ d c', (if own.all (noOwn env) then lcGo (fun x c => match tgt tg x (wipes env own) with
        | some e2 => (evc T cl cond e2 c).bind fun b c => if b then (ev T cl elt e2 c).bind fun y c => .ok (some y) c else .ok none c
        | none => .no) xs [] c else .no) = .ok d c' ∧ Q d c'
def Wcd (cond : List E) (env : Env) (c : C) (Q : Bool → C → Prop) : Prop := ∃ d c', evc T cl cond env c = .ok d c' ∧ Q d c'
end
def Wc (cl : Cl) (j : Nat) (ds : List D) (c : C) (Q : D → C → Prop) : Prop := ∃ d c', cl j ds c = .ok d c' ∧ Q d c'
/-- a value found -/
def So {α : Type} (o : Option α) (K : α → Prop) : Prop := ∃ a, o = some a ∧ K a
def Wif (b : Bool) (A B : Prop) : Prop := (b = true → A) ∧ (b = false → B)
def isVbE : E → Bool | .vb _ => true | _ => false
def nown (d : D) : Prop := ∀ ds, d ≠ .own ds
def Nm (d e : D) : Prop := norm d = e
def Nms (d e : List D) : Prop := d.map norm = e
def SetE (env : Env) (i : Nat) (d : Option D) (e2 : Env) : Prop := env.set i d = e2
def TG (t : Tg) (d : D) (env e2 : Env) : Prop := tgt t d env = some e2
def TGs (t : List Tg) (d : List D) (env e2 : Env) : Prop := tgts t d env = some e2
def WP (env : Env) (l : List Nat) (e2 : Env) : Prop := wipes env l = e2
def FZ (env : Env) (l : List Nat) (e2 : Env) : Prop := frz env l = e2
/-- the shared list is made -/
theorem So.mk {α : Type} {o : Option α} {a : α} {K : α → Prop} (h : o = some a) (k : K a) : So o K := ⟨a, h, k⟩
theorem Wif_t {A B : Prop} (a : A) : Wif true A B := ⟨fun _ => a, nofun⟩
theorem Wif_f {A B : Prop} (b : B) : Wif false A B := ⟨nofun, fun _ => b⟩
theorem Wif_s {b : Bool} {A B : Prop} (a : b = true → A) (k : b = false → B) : Wif b A B := ⟨a, k⟩
theorem Wif_yes {b : Bool} {A B : Prop} (h : b = true) (a : A) : Wif b A B := by subst h; exact Wif_t a
theorem Wif_no {b : Bool} {A B : Prop} (h : b = false) (a : B) : Wif b A B := by subst h; exact Wif_f a
theorem nm_int {i : Int} : Nm (.int i) (.int i) := rfl
theorem nm_bl {i : Bool} : Nm (.bl i) (.bl i) := rfl
theorem nm_non : Nm .non .non := rfl
theorem nm_str {i : Str} : Nm (.str i) (.str i) := rfl
theorem nm_tup {i : List D} : Nm (.tup i) (.tup i) := rfl
theorem nm_lst {i : List D} : Nm (.lst i) (.lst i) := rfl
theorem nm_own {i : List D} : Nm (.own i) (.lst i) := rfl
theorem nm_scr {i : List Int} : Nm (.scr i) (.scr i) := rfl
theorem nm_cup : Nm .cup .cup := rfl
theorem nm_fn {i : Nat} : Nm (.fn i) (.fn i) := rfl
theorem nm_n {d : D} (h : nown d) : Nm d d := by cases d <;> first | rfl | exact absurd rfl (h _)
theorem nm_any {d : D} : Nm d (norm d) := rfl
theorem nms_nil : Nms [] [] := rfl
theorem nms_cons {d e : D} {ds es : List D} (h : Nm d e) (t : Nms ds es) : Nms (d :: ds) (e :: es) := by
  show norm d :: ds.map norm = _
  rw [show norm d = e from h, show ds.map norm = es from t]
theorem nms_map {α : Type} {L : List α} {f : α → D} (h : ∀ a, norm (f a) = f a) : Nms (L.map f) (L.map f) := by
  show (L.map f).map norm = _
  rw [List.map_map]
  exact List.map_congr_left fun a _ => h a
theorem nms_n {ds : List D} (h : ∀ d ∈ ds, norm d = d) : Nms ds ds := by
  show ds.map norm = ds
  conv => rhs; rw [← List.map_id ds]
  exact List.map_congr_left fun a m => h a m
theorem nms_any {ds : List D} : Nms ds (ds.map norm) := rfl
theorem norm_norm (d : D) : norm (norm d) = norm d := by cases d <;> rfl
theorem norm_nw {d : D} (h : nown d) : norm d = d := nm_n h
theorem nown_norm (d : D) : nown (norm d) := by intro ds h; cases d <;> cases h
section
variable {a0 a1 a2 a3 a4 a5 a6 a7 a8 a9 a10 a11 a12 a13 a14 a15 a16 a17 a18 a19 a20 a21 a22 a23 x : Option D} {r : Env}
theorem set0 : SetE (a0 :: r) 0 x (x :: r) := rfl
theorem set1 : SetE (a0 :: a1 :: r) 1 x (a0 :: x :: r) := rfl
theorem set2 : SetE (a0 :: a1 :: a2 :: r) 2 x (a0 :: a1 :: x :: r) := rfl
theorem set3 : SetE (a0 :: a1 :: a2 :: a3 :: r) 3 x (a0 :: a1 :: a2 :: x :: r) := rfl
theorem set4 : SetE (a0 :: a1 :: a2 :: a3 :: a4 :: r) 4 x (a0 :: a1 :: a2 :: a3 :: x :: r) := rfl
theorem set5 : SetE (a0 :: a1 :: a2 :: a3 :: a4 :: a5 :: r) 5 x (a0 :: a1 :: a2 :: a3 :: a4 :: x :: r) := rfl
theorem set6 : SetE (a0 :: a1 :: a2 :: a3 :: a4 :: a5 :: a6 :: r) 6 x (a0 :: a1 :: a2 :: a3 :: a4 :: a5 :: x :: r) := rfl
theorem set7 : SetE (a0 :: a1 :: a2 :: a3 :: a4 :: a5 :: a6 :: a7 :: r) 7 x (a0 :: a1 :: a2 :: a3 :: a4 :: a5 :: a6 :: x :: r) := rfl
theorem set8 : SetE (a0 :: a1 :: a2 :: a3 :: a4 :: a5 :: a6 :: a7 :: a8 :: r) 8 x (a0 :: a1 :: a2 :: a3 :: a4 :: a5 :: a6 :: a7 :: x :: r) := rfl
theorem set9 : SetE (a0 :: a1 :: a2 :: a3 :: a4 :: a5 :: a6 :: a7 :: a8 :: a9 :: r) 9 x (a0 :: a1 :: a2 :: a3 :: a4 :: a5 :: a6 :: a7 :: a8 :: x :: r) := rfl
theorem set10 : SetE (a0 :: a1 :: a2 :: a3 :: a4 :: a5 :: a6 :: a7 :: a8 :: a9 :: a10 :: r) 10 x (a0 :: a1 :: a2 :: a3 :: a4 :: a5 :: a6 :: a7 :: a8 :: a9 :: x :: r) := rfl
theorem setS {y : Option D} {i : Nat} {r2 : Env} (h : SetE r i x r2) : SetE (y :: r) (i + 1) x (y :: r2) := by
  show (y :: r).set (i + 1) x = _
  rw [List.set_cons_succ, show r.set i x = r2 from h]
end
theorem tg_n {i : Nat} {d e : D} {env e2 : Env} (h : Nm d e) (s : SetE env i (some e) e2) : TG (.n i) d env e2 := by
  show some (env.set i (some (norm d))) = _
  rw [show norm d = e from h, show env.set i (some e) = e2 from s]
theorem tg_t {l : List Tg} {ds : List D} {env e2 : Env} (h : TGs l ds env e2) : TG (.t l) (.tup ds) env e2 := by
  show tgt (.t l) (.tup ds) env = _
  rw [tgt]; exact h
theorem tgs_nil {env : Env} : TGs [] [] env env := by show tgts [] [] env = _; rw [tgts]
theorem tgs_cons {t : Tg} {l : List Tg} {d : D} {ds : List D} {env e1 e2 : Env} (h : TG t d env e1) (k : TGs l ds e1 e2) : TGs (t :: l) (d :: ds) env e2 := by
  show tgts (t :: l) (d :: ds) env = _
  rw [tgts, show tgt t d env = some e1 from h]
  exact k
theorem wp_nil {env : Env} : WP env [] env := rfl
theorem wp_cons {env e1 e2 : Env} {v : Nat} {vs : List Nat} (h : WP env vs e1) (k : SetE e1 v none e2) : WP env (v :: vs) e2 := by
  show (wipes env vs).set v none = _
  rw [show wipes env vs = e1 from h]; exact k
theorem fz_nil {env : Env} : FZ env [] env := rfl
theorem fz_own {env e1 e2 : Env} {i : Nat} {r : List Nat} {ds : List D} (h : env[i]? = some (some (.own ds))) (k : SetE env i (some (.lst ds)) e1) (t : FZ e1 r e2) : FZ env (i :: r) e2 := by
  show frz env (i :: r) = _
  rw [frz, h]
  show frz (env.set i (some (.lst ds))) r = _
  rw [show env.set i (some (.lst ds)) = e1 from k]; exact t
theorem fz_oth {env e2 : Env} {i : Nat} {r : List Nat} {d : D} (h : env[i]? = some (some d)) (n : nown d) (t : FZ env r e2) : FZ env (i :: r) e2 := by
  show frz env (i :: r) = _
  rw [frz, h]
  cases d <;> first | exact t | exact absurd rfl (n _)
theorem fz_none {env e2 : Env} {i : Nat} {r : List Nat} (h : env[i]? = some none) (t : FZ env r e2) : FZ env (i :: r) e2 := by
  show frz env (i :: r) = _
  rw [frz, h]; exact t
section
variable {T : Tab} {cl : Cl} {env e1 e2 : Env} {c : C} {a b t e : E} {es : List E} {Q : D → C → Prop} {QB : Bool → C → Prop} {QL : List D → C → Prop} {d : D}
/-! ## expressions -/
theorem We_int {n : Int} (q : Q (.int n) c) : We T cl (.int n) env c Q := ⟨_, _, bs_int, q⟩
theorem We_bl {n : Bool} (q : Q (.bl n) c) : We T cl (.bl n) env c Q := ⟨_, _, bs_bl, q⟩
theorem We_non (q : Q .non c) : We T cl .non env c Q := ⟨_, _, bs_non, q⟩
theorem We_str {n : Str} (q : Q (.str n) c) : We T cl (.str n) env c Q := ⟨_, _, bs_str, q⟩
theorem We_gl {j : Nat} (h : T.consts[j]? = some d) (q : Q d c) : We T cl (.gl j) env c Q := ⟨_, _, bs_gl h, q⟩
theorem We_fn {j : Nat} (q : Q (.fn j) c) : We T cl (.fn j) env c Q := ⟨_, _, by simp only [ev], q⟩
theorem We_v {i : Nat} (h : env[i]? = some (some d)) (n : nown d) (q : Q d c) : We T cl (.v i) env c Q := ⟨_, _, bs_v h n, q⟩
theorem We_vb {i : Nat} {d2 : D} (h : env[i]? = some (some d)) (n : Nm d d2) (q : Q d2 c) : We T cl (.vb i) env c Q := ⟨_, _, by rw [bs_vb h, show norm d = d2 from n], q⟩
theorem We_bin {o : Bop} (h : We T cl a env c fun x c => We T cl b env c fun y c => So (binv o x y) fun d => Q d c) : We T cl (.bin o a b) env c Q := by
  obtain ⟨x, c1, h1, y, c2, h2, d, h3, q⟩ := h
  exact ⟨_, _, bs_bin h1 h2 h3, q⟩
theorem We_neg (h : We T cl a env c fun x c => So (match x with | .int i => some (D.int (-i)) | _ => none) fun d => Q d c) : We T cl (.neg a) env c Q := by
  obtain ⟨x, c1, h1, d, h3, q⟩ := h
  cases x <;> first | cases h3 | skip
  exact ⟨_, _, bs_neg h1, q⟩
theorem We_cmp {o : Cop} (h : We T cl a env c fun x c => We T cl b env c fun y c => So (cmpv o x y) fun k => Q (.bl k) c) : We T cl (.cmp o a b) env c Q := by
  obtain ⟨x, c1, h1, y, c2, h2, d, h3, q⟩ := h
  exact ⟨_, _, bs_cmp h1 h2 h3, q⟩
theorem We_chain {o p : Cop} (h : We T cl a env c fun x c => We T cl b env c fun y c => So (cmpv o x y) fun k => Wif k (We T cl e env c fun z c => So (cmpv p y z) fun k => Q (.bl k) c) (Q (.bl false) c)) : We T cl (.chain o p a b e) env c Q := by
  obtain ⟨x, c1, h1, y, c2, h2, k, h3, q1, q2⟩ := h
  cases k with
  | true =>
    obtain ⟨z, c3, h4, k, h5, q⟩ := q1 rfl
    exact ⟨_, _, bs_chain h1 h2 h3 h4 h5, q⟩
  | false => exact ⟨_, _, bs_chainF h1 h2 h3, q2 rfl⟩
theorem We_ch3 {f : E} {o p q : Cop} (h : We T cl a env c fun x c => We T cl b env c fun y c => So (cmpv o x y) fun k => Wif k (We T cl e env c fun z c => So (cmpv p y z) fun k => Wif k (We T cl f env c fun u c => So (cmpv q z u) fun k => Q (.bl k) c) (Q (.bl false) c)) (Q (.bl false) c)) : We T cl (.chain3 o p q a b e f) env c Q := by
  obtain ⟨x, c1, h1, y, c2, h2, k, h3, q1, q2⟩ := h
  cases k with
  | true =>
    obtain ⟨z, c3, h4, k, h5, q3, q4⟩ := q1 rfl
    cases k with
    | true =>
      obtain ⟨u, c4, h6, k, h7, q⟩ := q3 rfl
      exact ⟨.bl k, c4, by simp only [ev, h1, h2, R.bind, h3, h4, h5, h6, h7, lift, Option.map_some], q⟩
    | false => exact ⟨.bl false, c3, by simp only [ev, h1, h2, R.bind, h3, h4, h5], q4 rfl⟩
  | false => exact ⟨.bl false, c2, by simp only [ev, h1, h2, R.bind, h3], q2 rfl⟩
theorem Wt_ch3 {f : E} {o p q : Cop} (h : We T cl a env c fun x c => We T cl b env c fun y c => So (cmpv o x y) fun k => Wif k (We T cl e env c fun z c => So (cmpv p y z) fun k => Wif k (We T cl f env c fun u c => So (cmpv q z u) fun k => QB k c) (QB false c)) (QB false c)) : Wt T cl (.chain3 o p q a b e f) env c QB := by
  obtain ⟨x, c1, h1, y, c2, h2, k, h3, q1, q2⟩ := h
  cases k with
  | true =>
    obtain ⟨z, c3, h4, k, h5, q3, q4⟩ := q1 rfl
    cases k with
    | true =>
      obtain ⟨u, c4, h6, k, h7, q⟩ := q3 rfl
      exact ⟨k, c4, by simp only [evt, h1, h2, R.bind, h3, h4, h5, h6, h7, lift], q⟩
    | false => exact ⟨false, c3, by simp only [evt, h1, h2, R.bind, h3, h4, h5], q4 rfl⟩
  | false => exact ⟨false, c2, by simp only [evt, h1, h2, R.bind, h3], q2 rfl⟩
theorem We_p1 {o : P1} (h : We T cl a env c fun x c => So (p1v o x) fun d => Q d c) : We T cl (.p1 o a) env c Q := by
  obtain ⟨x, c1, h1, d, h3, q⟩ := h
  exact ⟨_, _, by simp only [ev, h1, R.bind, h3, lift], q⟩
theorem We_p2 {o : P2} (h : We T cl a env c fun x c => We T cl b env c fun y c => So (p2v o x y) fun d => Q d c) : We T cl (.p2 o a b) env c Q := by
  obtain ⟨x, c1, h1, y, c2, h2, d, h3, q⟩ := h
  exact ⟨_, _, by simp only [ev, h1, h2, R.bind, h3, lift], q⟩
theorem We_not (h : We T cl a env c fun x c => So (truth x) fun k => So (some (!k)) fun k => Q (.bl k) c) : We T cl (.not a) env c Q := by
  obtain ⟨x, c1, h1, k, h3, k2, h4, q⟩ := h
  cases h4
  exact ⟨_, _, bs_not h1 h3, q⟩
theorem So_nt {K : Bool → Prop} (k : K false) : So (some (!true)) K := ⟨_, rfl, k⟩
theorem So_nf {K : Bool → Prop} (k : K true) : So (some (!false)) K := ⟨_, rfl, k⟩
theorem So_nn {K : Bool → Prop} {b : Bool} (k : K b) : So (some (!!b)) K := ⟨_, rfl, by rw [Bool.not_not]; exact k⟩
theorem So_n {K : Bool → Prop} {b : Bool} (k : K (!b)) : So (some (!b)) K := ⟨_, rfl, k⟩
theorem We_ife (h : Wt T cl t env c fun k c => Wif k (We T cl a env c Q) (We T cl b env c Q)) : We T cl (.ife t a b) env c Q := by
  obtain ⟨k, c1, h1, q1, q2⟩ := h
  cases k with
  | true => obtain ⟨x, c2, h2, q⟩ := q1 rfl; exact ⟨_, _, bs_ifeT h1 h2, q⟩
  | false => obtain ⟨x, c2, h2, q⟩ := q2 rfl; exact ⟨_, _, bs_ifeF h1 h2, q⟩
theorem We_tup {n : Nat} (h : Wes T cl es env c fun ds c => So (if ds.length ≤ szl then some ds else none) fun ds => ∃ d2, Nms ds d2 ∧ Q (.tup d2) c) : We T cl (.tup es) env c Q := by
  obtain ⟨ds, c1, h1, d, h2, d2, n2, q⟩ := h
  split at h2
  · cases h2
    exact ⟨_, _, bs_tup h1 ‹_›, by rw [show ds.map norm = d2 from n2]; exact q⟩
  · cases h2
theorem We_lst {n : Nat} (h : Wes T cl es env c fun ds c => So (if ds.length ≤ szl then some ds else none) fun ds => ∃ d2, Nms ds d2 ∧ Q (.own d2) c) : We T cl (.lst es) env c Q := by
  obtain ⟨ds, c1, h1, d, h2, d2, n2, q⟩ := h
  split at h2
  · cases h2
    exact ⟨_, _, bs_lst h1 ‹_›, by rw [show ds.map norm = d2 from n2]; exact q⟩
  · cases h2
theorem So_len {ds : List D} {n : Nat} {K : List D → Prop} (h : ds.length = n) (hn : n ≤ szl) (k : K ds) : So (if ds.length ≤ szl then some ds else none) K := ⟨ds, by rw [if_pos (by rw [h]; exact hn)], k⟩
theorem So_lt {ds : List D} {K : List D → Prop} (h : ds.length ≤ szl) (k : K ds) : So (if ds.length ≤ szl then some ds else none) K := ⟨ds, by rw [if_pos h], k⟩
theorem Ex_mk {α : Type} {P K : α → Prop} {x : α} (h : P x) (k : K x) : ∃ a, P a ∧ K a := ⟨x, h, k⟩
theorem We_ix (h : We T cl a env c fun x c => We T cl b env c fun y c => So (match y with | .int i => ixv x i c | _ => none) fun d => Q d c) : We T cl (.ix a b) env c Q := by
  obtain ⟨x, c1, h1, y, c2, h2, d, h3, q⟩ := h
  cases y <;> first | cases h3 | skip
  exact ⟨_, _, bs_ix h1 h2 h3, q⟩
theorem We_sl {lo hi : E} (h : We T cl a env c fun x c => Wo T cl lo env c fun l c => Wo T cl hi env c fun h c => So (slv x l h) fun d => Q d c) : We T cl (.sl a lo hi) env c Q := by
  obtain ⟨x, c1, h1, y, c2, h2, z, c3, h3, d, h4, q⟩ := h
  exact ⟨_, _, by simp only [ev, h1, h2, h3, R.bind, h4, lift], q⟩
theorem Wo_nop {QO : Option Int → C → Prop} (q : QO none c) : Wo T cl .nop env c QO := ⟨_, _, by simp only [evo], q⟩
theorem Wo_itr {QO : Option Int → C → Prop} (h : We T cl a env c fun x c => So (partOf x) fun l => QO l c) : Wo T cl (.itr a) env c QO := by
  obtain ⟨x, c1, h1, l, h2, q⟩ := h
  exact ⟨_, _, by simp only [evo, h1, R.bind, h2, lift], q⟩
theorem We_call {j : Nat} (h : Wes T cl es env c fun ds c => ∃ d2, Nms ds d2 ∧ Wc cl j d2 c Q) : We T cl (.call j es) env c Q := by
  obtain ⟨ds, c1, h1, d2, h2, d, c2, h3, q⟩ := h
  exact ⟨_, _, bs_call h1 (by rw [show ds.map norm = d2 from h2]; exact h3), q⟩
theorem We_callv {i j : Nat} (hj : env[i]? = some (some (.fn j))) (h : Wes T cl es env c fun ds c => ∃ d2, Nms ds d2 ∧ Wc cl j d2 c Q) : We T cl (.callv i es) env c Q := by
  obtain ⟨ds, c1, h1, d2, h2, d, c2, h3, q⟩ := h
  exact ⟨_, _, by simp only [ev, hj, h1, R.bind, show ds.map norm = d2 from h2, h3], q⟩
theorem We_b1 {f : B1} (h : We T cl a env c fun x c => So (b1v f x) fun d => Q d c) : We T cl (.b1 f a) env c Q := by
  obtain ⟨x, c1, h1, d, h3, q⟩ := h
  exact ⟨_, _, bs_b1 h1 h3, q⟩
theorem We_b2 {f : B2} (h : We T cl a env c fun x c => We T cl b env c fun y c => So (b2v f x y) fun d => Q d c) : We T cl (.b2 f a b) env c Q := by
  obtain ⟨x, c1, h1, y, c2, h2, d, h3, q⟩ := h
  exact ⟨_, _, bs_b2 h1 h2 h3, q⟩
theorem We_isi {u : Ty} (h : We T cl a env c fun x c => So (isiv x u) fun k => Q (.bl k) c) : We T cl (.isi a u) env c Q := by
  obtain ⟨x, c1, h1, d, h3, q⟩ := h
  exact ⟨_, _, bs_isi h1 h3, q⟩
theorem We_and1 (h : We T cl e env c Q) : We T cl (.and [e]) env c Q := by
  obtain ⟨x, c1, h1, q⟩ := h
  exact ⟨_, _, bs_a1 h1, q⟩
theorem We_and {f : E} (h : We T cl e env c fun x c => So (match x with | .bl k => some k | _ => none) fun k => Wif k (We T cl (.and (f :: es)) env c Q) (Q (.bl false) c)) : We T cl (.and (e :: f :: es)) env c Q := by
  obtain ⟨x, c1, h1, k, h2, q1, q2⟩ := h
  cases x <;> first | cases h2 | skip
  cases k with
  | true => obtain ⟨y, c2, h3, q⟩ := q1 rfl; exact ⟨_, _, bs_aT h1 nofun h3, q⟩
  | false => exact ⟨_, _, bs_aF h1 nofun, q2 rfl⟩
theorem We_or1 (h : We T cl e env c Q) : We T cl (.or [e]) env c Q := by
  obtain ⟨x, c1, h1, q⟩ := h
  exact ⟨_, _, by simp only [ev, evor, h1], q⟩
theorem We_or {f : E} (h : We T cl e env c fun x c => So (match x with | .bl k => some k | _ => none) fun k => Wif k (Q (.bl true) c) (We T cl (.or (f :: es)) env c Q)) : We T cl (.or (e :: f :: es)) env c Q := by
  obtain ⟨x, c1, h1, k, h2, q1, q2⟩ := h
  cases x <;> first | cases h2 | skip
  cases k with
  | true =>
    refine ⟨.bl true, c1, ?_, q1 rfl⟩
    simp only [ev]
    rw [evor]
    · simp only [h1, R.bind]
    · intro z; cases z
  | false =>
    obtain ⟨y, c2, h3, q⟩ := q2 rfl
    refine ⟨y, c2, ?_, q⟩
    simp only [ev] at h3 ⊢
    rw [evor]
    · simp only [h1, R.bind, h3]
    · intro z; cases z
theorem We_lc {elt it : E} {tg : Tg} {cond : List E} {own : List Nat} (h : Wi T cl it env c fun xs c => WLc T cl elt tg cond own xs env c Q) : We T cl (.lc elt tg it cond own) env c Q := by
  obtain ⟨xs, c1, h1, d, c2, h2, q⟩ := h
  exact ⟨_, _, by simp only [ev, h1, R.bind]; exact h2, q⟩
theorem Wes_nil (q : QL [] c) : Wes T cl [] env c QL := ⟨_, _, bs_nil, q⟩
theorem Wes_cons (h : We T cl e env c fun x c => Wes T cl es env c fun xs c => QL (x :: xs) c) : Wes T cl (e :: es) env c QL := by
  obtain ⟨x, c1, h1, xs, c2, h2, q⟩ := h
  exact ⟨_, _, bs_cons h1 h2, q⟩
/-! ## tests -/
theorem Wt_v {i : Nat} (h : env[i]? = some (some d)) (n : nown d) (q : So (truth d) fun k => QB k c) : Wt T cl (.v i) env c QB := by
  obtain ⟨k, h2, q⟩ := q
  refine ⟨k, c, ?_, q⟩
  cases d <;> first | exact absurd rfl (n _) | simp only [evt, h, h2, lift]
theorem Wt_vb {i : Nat} (h : env[i]? = some (some d)) (q : So (truth d) fun k => QB k c) : Wt T cl (.vb i) env c QB := by
  obtain ⟨k, h2, q⟩ := q
  exact ⟨_, _, by simp only [evt, h, h2, lift], q⟩
theorem Wt_bl {k : Bool} (q : QB k c) : Wt T cl (.bl k) env c QB := ⟨_, _, by simp only [evt], q⟩
theorem Wt_cmp {o : Cop} (h : We T cl a env c fun x c => We T cl b env c fun y c => So (cmpv o x y) fun k => QB k c) : Wt T cl (.cmp o a b) env c QB := by
  obtain ⟨x, c1, h1, y, c2, h2, d, h3, q⟩ := h
  exact ⟨_, _, bs_cmpT h1 h2 h3, q⟩
theorem Wt_chain {o p : Cop} (h : We T cl a env c fun x c => We T cl b env c fun y c => So (cmpv o x y) fun k => Wif k (We T cl e env c fun z c => So (cmpv p y z) fun k => QB k c) (QB false c)) : Wt T cl (.chain o p a b e) env c QB := by
  obtain ⟨x, c1, h1, y, c2, h2, k, h3, q1, q2⟩ := h
  cases k with
  | true =>
    obtain ⟨z, c3, h4, k, h5, q⟩ := q1 rfl
    exact ⟨_, _, bs_chainT h1 h2 h3 h4 h5, q⟩
  | false => exact ⟨_, _, bs_chainTF h1 h2 h3, q2 rfl⟩
theorem Wt_not (h : Wt T cl a env c fun k c => So (some (!k)) fun k => QB k c) : Wt T cl (.not a) env c QB := by
  obtain ⟨k, c1, h1, k2, h2, q⟩ := h
  cases h2
  exact ⟨_, _, bs_notT h1, q⟩
theorem Wt_ife (h : Wt T cl t env c fun k c => Wif k (Wt T cl a env c QB) (Wt T cl b env c QB)) : Wt T cl (.ife t a b) env c QB := by
  obtain ⟨k, c1, h1, q1, q2⟩ := h
  cases k with
  | true => obtain ⟨x, c2, h2, q⟩ := q1 rfl; exact ⟨_, _, by simp only [evt, h1, R.bind, if_true, h2], q⟩
  | false => obtain ⟨x, c2, h2, q⟩ := q2 rfl; exact ⟨_, _, by simp only [evt, h1, R.bind, if_false, Bool.false_eq_true, h2], q⟩
theorem Wt_call {j : Nat} (h : Wes T cl es env c fun ds c => ∃ d2, Nms ds d2 ∧ Wc cl j d2 c fun d c => So (truth d) fun k => QB k c) : Wt T cl (.call j es) env c QB := by
  obtain ⟨ds, c1, h1, d2, h2, d, c2, h3, k, h4, q⟩ := h
  exact ⟨_, _, by simp only [evt, h1, R.bind, show ds.map norm = d2 from h2, h3, h4, lift], q⟩
theorem Wt_callv {i j : Nat} (hj : env[i]? = some (some (.fn j))) (h : Wes T cl es env c fun ds c => ∃ d2, Nms ds d2 ∧ Wc cl j d2 c fun d c => So (truth d) fun k => QB k c) : Wt T cl (.callv i es) env c QB := by
  obtain ⟨ds, c1, h1, d2, h2, d, c2, h3, k, h4, q⟩ := h
  exact ⟨_, _, by simp only [evt, hj, h1, R.bind, show ds.map norm = d2 from h2, h3, h4, lift], q⟩
theorem Wt_b1 {f : B1} (h : We T cl a env c fun x c => So (b1v f x) fun d => So (truth d) fun k => QB k c) : Wt T cl (.b1 f a) env c QB := by
  obtain ⟨x, c1, h1, d, h3, k, h4, q⟩ := h
  exact ⟨_, _, by simp only [evt, h1, R.bind, h3, h4, lift], q⟩
theorem Wt_isi {u : Ty} (h : We T cl a env c fun x c => So (isiv x u) fun k => QB k c) : Wt T cl (.isi a u) env c QB := by
  obtain ⟨x, c1, h1, d, h3, q⟩ := h
  exact ⟨_, _, bs_isiT h1 h3, q⟩
theorem Wt_ix (h : We T cl a env c fun x c => We T cl b env c fun y c => So (match y with | .int i => ixv x i c | _ => none) fun d => So (truth d) fun k => QB k c) : Wt T cl (.ix a b) env c QB := by
  obtain ⟨x, c1, h1, y, c2, h2, d, h3, k, h4, q⟩ := h
  cases y <;> first | cases h3 | skip
  exact ⟨_, _, by simp only [evt, h1, h2, R.bind, h3, h4, lift], q⟩
theorem Wt_and1 (h : Wt T cl e env c QB) : Wt T cl (.and [e]) env c QB := by
  obtain ⟨x, c1, h1, q⟩ := h
  exact ⟨_, _, bs_and1 h1, q⟩
theorem Wt_and {f : E} (h : Wt T cl e env c fun k c => Wif k (Wt T cl (.and (f :: es)) env c QB) (QB false c)) : Wt T cl (.and (e :: f :: es)) env c QB := by
  obtain ⟨k, c1, h1, q1, q2⟩ := h
  cases k with
  | true => obtain ⟨y, c2, h3, q⟩ := q1 rfl; exact ⟨_, _, bs_andTT h1 nofun h3, q⟩
  | false => exact ⟨_, _, bs_andTF h1 nofun, q2 rfl⟩
theorem Wt_or1 (h : Wt T cl e env c QB) : Wt T cl (.or [e]) env c QB := by
  obtain ⟨x, c1, h1, q⟩ := h
  exact ⟨_, _, bs_or1 h1, q⟩
theorem bs_orTT {c' : C} (h1 : evt T cl e env c = .ok true c') (hne : es ≠ []) : evt T cl (.or (e :: es)) env c = .ok true c' := by
  simp only [evt]
  cases es with
  | nil => exact absurd rfl hne
  | cons f es =>
    rw [evtor]
    · simp only [h1, R.bind, if_true]
    · intro z; cases z
theorem Wt_or {f : E} (h : Wt T cl e env c fun k c => Wif k (QB true c) (Wt T cl (.or (f :: es)) env c QB)) : Wt T cl (.or (e :: f :: es)) env c QB := by
  obtain ⟨k, c1, h1, q1, q2⟩ := h
  cases k with
  | false => obtain ⟨y, c2, h3, q⟩ := q2 rfl; exact ⟨_, _, bs_orTF h1 nofun h3, q⟩
  | true => exact ⟨_, _, bs_orTT h1 nofun, q1 rfl⟩
/-- without a split: the rest as a value -/
theorem Wif_and {b k : Bool} {c : C} {F : (Bool → C → Prop) → Prop} (m : ∀ {P P' : Bool → C → Prop}, (∀ b c, P b c → P' b c) → F P → F P') (h : b = true → F (fun k' c' => k' = k ∧ c' = c)) (q : QB (b && k) c) : Wif b (F QB) (QB false c) := by
  cases b with
  | true => exact Wif_t (m (fun k' c' z => by rw [z.1, z.2]; exact q) (h rfl))
  | false => exact Wif_f q
theorem Wif_or {b k : Bool} {c : C} {F : (Bool → C → Prop) → Prop} (m : ∀ {P P' : Bool → C → Prop}, (∀ b c, P b c → P' b c) → F P → F P') (h : b = false → F (fun k' c' => k' = k ∧ c' = c)) (q : QB (b || k) c) : Wif b (QB true c) (F QB) := by
  cases b with
  | false => exact Wif_f (m (fun k' c' z => by rw [z.1, z.2]; exact q) (h rfl))
  | true => exact Wif_t q
theorem Wt_m {P P' : Bool → C → Prop} (h : ∀ b c, P b c → P' b c) (w : Wt T cl e env c P) : Wt T cl e env c P' := by
  obtain ⟨k, c1, h1, q⟩ := w; exact ⟨_, _, h1, h _ _ q⟩
theorem We_m {P P' : D → C → Prop} (h : ∀ b c, P b c → P' b c) (w : We T cl e env c P) : We T cl e env c P' := by
  obtain ⟨k, c1, h1, q⟩ := w; exact ⟨_, _, h1, h _ _ q⟩
theorem Wc_m {j : Nat} {ds : List D} {P P' : D → C → Prop} (h : ∀ b c, P b c → P' b c) (w : Wc cl j ds c P) : Wc cl j ds c P' := by
  obtain ⟨k, c1, h1, q⟩ := w; exact ⟨_, _, h1, h _ _ q⟩
theorem Wif_andT {b k : Bool} (h : b = true → Wt T cl e env c (fun k' c' => k' = k ∧ c' = c)) (q : QB (b && k) c) : Wif b (Wt T cl e env c QB) (QB false c) :=
  Wif_and (F := fun P => Wt T cl e env c P) Wt_m h q
theorem Wif_orT {b k : Bool} (h : b = false → Wt T cl e env c (fun k' c' => k' = k ∧ c' = c)) (q : QB (b || k) c) : Wif b (QB true c) (Wt T cl e env c QB) :=
  Wif_or (F := fun P => Wt T cl e env c P) Wt_m h q
theorem Wif_andE {b k : Bool} (h : b = true → We T cl e env c (fun x c' => x = .bl k ∧ c' = c)) (q : Q (.bl (b && k)) c) : Wif b (We T cl e env c Q) (Q (.bl false) c) := by
  cases b with
  | true => exact Wif_t (We_m (fun k' c' z => by rw [z.1, z.2]; exact q) (h rfl))
  | false => exact Wif_f q
theorem Wif_orE {b k : Bool} (h : b = false → We T cl e env c (fun x c' => x = .bl k ∧ c' = c)) (q : Q (.bl (b || k)) c) : Wif b (Q (.bl true) c) (We T cl e env c Q) := by
  cases b with
  | false => exact Wif_f (We_m (fun k' c' z => by rw [z.1, z.2]; exact q) (h rfl))
  | true => exact Wif_t q
theorem Wif_chE {b k : Bool} {p : Cop} {y : D} (h : b = true → We T cl e env c (fun z c' => So (cmpv p y z) fun k' => k' = k ∧ c' = c)) (q : Q (.bl (b && k)) c) : Wif b (We T cl e env c fun z c => So (cmpv p y z) fun k => Q (.bl k) c) (Q (.bl false) c) := by
  cases b with
  | true =>
    refine Wif_t (We_m ?_ (h rfl))
    rintro d c' ⟨k', h1, h2, h3⟩
    rw [h3]
    exact ⟨k', h1, by rw [h2]; exact q⟩
  | false => exact Wif_f q
theorem Wif_chT {b k : Bool} {p : Cop} {y : D} (h : b = true → We T cl e env c (fun z c' => So (cmpv p y z) fun k' => k' = k ∧ c' = c)) (q : QB (b && k) c) : Wif b (We T cl e env c fun z c => So (cmpv p y z) fun k => QB k c) (QB false c) := by
  cases b with
  | true =>
    refine Wif_t (We_m ?_ (h rfl))
    rintro d c' ⟨k', h1, h2, h3⟩
    rw [h3]
    exact ⟨k', h1, by rw [h2]; exact q⟩
  | false => exact Wif_f q
/-- a choice as a value -/
theorem Wif_val {k : Bool} {x y : D} (h1 : k = true → We T cl a env c (fun d c' => d = x ∧ c' = c)) (h2 : k = false → We T cl b env c (fun d c' => d = y ∧ c' = c)) (q : Q (if k then x else y) c) : Wif k (We T cl a env c Q) (We T cl b env c Q) := by
  cases k with
  | false => exact Wif_f (We_m (fun k' c' z => by rw [z.1, z.2]; exact q) (h2 rfl))
  | true => exact Wif_t (We_m (fun k' c' z => by rw [z.1, z.2]; exact q) (h1 rfl))
/-! ## what is walked -/
theorem Wi_itr (h : We T cl a env c fun x c => So (items x) fun xs => ∃ d2, Nms xs d2 ∧ QL d2 c) : Wi T cl (.itr a) env c QL := by
  obtain ⟨x, c1, h1, xs, h2, d2, h3, q⟩ := h
  exact ⟨_, _, bs_itr h1 h2, by rw [show xs.map norm = d2 from h3]; exact q⟩
theorem Wi_rng1 (h : We T cl a env c fun x c => So (rngv1 x) fun xs => QL xs c) : Wi T cl (.rng1 a) env c QL := by
  obtain ⟨x, c1, h1, xs, h2, q⟩ := h
  exact ⟨_, _, bs_rng1 h1 h2, q⟩
theorem Wi_rng2 (h : We T cl a env c fun x c => We T cl b env c fun y c => So (rngv2 x y) fun xs => QL xs c) : Wi T cl (.rng2 a b) env c QL := by
  obtain ⟨x, c1, h1, y, c2, h2, xs, h3, q⟩ := h
  exact ⟨_, _, bs_rng2 h1 h2 h3, q⟩
theorem Wi_zip (h : We T cl a env c fun x c => We T cl b env c fun y c => So (zipv x y) fun xs => QL xs c) : Wi T cl (.zip2 a b) env c QL := by
  obtain ⟨x, c1, h1, y, c2, h2, xs, h3, q⟩ := h
  exact ⟨_, _, by simp only [evi, h1, h2, R.bind, h3, lift], q⟩
theorem Wi_enum (h : We T cl a env c fun x c => So (enumv x) fun xs => QL xs c) : Wi T cl (.enum a) env c QL := by
  obtain ⟨x, c1, h1, xs, h2, q⟩ := h
  exact ⟨_, _, by simp only [evi, h1, R.bind, h2, lift], q⟩
/-! ## statements -/
section
variable {N : Env → C → Prop} {R : D → C → Prop} {B K : Env → C → Prop} {s : PX.S} {r p q : List PX.S}
theorem WSs_nil (h : N env c) : WSs T cl [] env c N R B K := ⟨_, _, _, bs_s0, h⟩
theorem WSs_cons (h : WS T cl s env c (fun e c => WSs T cl r e c N R B K) R B K) : WSs T cl (s :: r) env c N R B K := by
  obtain ⟨f, e1, c1, h1, h2⟩ := h
  cases f with
  | nx =>
    obtain ⟨f, e3, c3, h3, h4⟩ := h2
    exact ⟨f, e3, c3, by rw [bs_s1 h1]; exact h3, h4⟩
  | bk => exact ⟨_, _, _, by simp only [evSs, h1, RS.then]; rfl, h2⟩
  | ct => exact ⟨_, _, _, by simp only [evSs, h1, RS.then]; rfl, h2⟩
  | rt d => exact ⟨_, _, _, by simp only [evSs, h1, RS.then]; rfl, h2⟩
theorem WSs_m {N' : Env → C → Prop} {R' : D → C → Prop} {B' K' : Env → C → Prop} (hN : ∀ e c, N e c → N' e c) (hR : ∀ e c, R e c → R' e c) (hB : ∀ e c, B e c → B' e c) (hK : ∀ e c, K e c → K' e c) (h : WSs T cl p env c N R B K) : WSs T cl p env c N' R' B' K' := by
  obtain ⟨f, e1, c1, h1, h2⟩ := h
  refine ⟨f, e1, c1, h1, ?_⟩
  cases f with
  | nx => exact hN _ _ h2
  | bk => exact hB _ _ h2
  | ct => exact hK _ _ h2
  | rt d => exact hR _ _ h2
theorem WS_m {N' : Env → C → Prop} {R' : D → C → Prop} {B' K' : Env → C → Prop} (hN : ∀ e c, N e c → N' e c) (hR : ∀ e c, R e c → R' e c) (hB : ∀ e c, B e c → B' e c) (hK : ∀ e c, K e c → K' e c) (h : WS T cl s env c N R B K) : WS T cl s env c N' R' B' K' := by
  obtain ⟨f, e1, c1, h1, h2⟩ := h
  refine ⟨f, e1, c1, h1, ?_⟩
  cases f with
  | nx => exact hN _ _ h2
  | bk => exact hB _ _ h2
  | ct => exact hK _ _ h2
  | rt d => exact hR _ _ h2
/-- a cut: what holds behind the first part -/
theorem WSs_cut (I : Env → C → Prop) (h : WSs T cl p env c I R B K) (k : ∀ e c, I e c → WSs T cl q e c N R B K) : WSs T cl (p ++ q) env c N R B K := by
  induction p generalizing env c with
  | nil =>
    obtain ⟨f, e1, c1, h1, h2⟩ := h
    simp only [evSs] at h1
    cases h1
    exact k _ _ h2
  | cons s p ih =>
    obtain ⟨f, e1, c1, h1, h2⟩ := h
    rw [List.cons_append]
    refine WSs_cons ?_
    simp only [evSs] at h1
    generalize hs : evS T cl s env c = w at h1
    cases w with
    | no => cases h1
    | ex x c => cases h1
    | ok g e3 c3 => cases g with
      | nx => exact ⟨_, _, _, hs, ih ⟨f, e1, c1, h1, h2⟩⟩
      | bk => cases h1; exact ⟨_, _, _, hs, h2⟩
      | ct => cases h1; exact ⟨_, _, _, hs, h2⟩
      | rt d => cases h1; exact ⟨_, _, _, hs, h2⟩
theorem WS_asg {i : Nat} {ef : D → Env} (hs : ∀ d, SetE env i (some d) (ef d)) (h : We T cl e env c fun d c => N (ef d) c) : WS T cl (.asg i e) env c N R B K := by
  obtain ⟨x, c1, h1, q⟩ := h
  exact ⟨_, _, _, bs_asg h1, by show N (env.set i (some x)) c1; rw [show env.set i (some x) = _ from hs x]; exact q⟩
theorem WS_ex (h : We T cl e env c fun d c => N env c) : WS T cl (.ex e) env c N R B K := by
  obtain ⟨x, c1, h1, q⟩ := h
  exact ⟨_, _, _, bs_ex h1, q⟩
theorem WS_tas {t : Tg} (h : We T cl e env c fun d c => ∃ e2, TG t d env e2 ∧ N e2 c) : WS T cl (.tas t e) env c N R B K := by
  obtain ⟨x, c1, h1, e2, h2, q⟩ := h
  exact ⟨_, _, _, bs_tas h1 h2, q⟩
theorem WS_par {is : List Nat} (h : Wes T cl es env c fun ds c => ∃ e2, TGs (is.map .n) ds env e2 ∧ N e2 c) : WS T cl (.par is es) env c N R B K := by
  obtain ⟨xs, c1, h1, e2, h2, q⟩ := h
  have key : ∀ (is : List Nat) (xs : List D) (env e2 : Env), TGs (is.map .n) xs env e2 → setAll is xs env = some e2 := by
    intro is
    induction is with
    | nil =>
      intro xs env e2 h
      cases xs with
      | nil => have h : tgts [] [] env = some e2 := h; rw [tgts] at h; exact h
      | cons x xs => have h : tgts [] (x :: xs) env = some e2 := h; rw [tgts] at h <;> cases h
    | cons i is ih =>
      intro xs env e2 h
      cases xs with
      | nil => have h : tgts (.n i :: is.map .n) [] env = some e2 := h; rw [tgts] at h <;> cases h
      | cons x xs =>
        have h : tgts (.n i :: is.map .n) (x :: xs) env = some e2 := h
        rw [tgts, tgt] at h
        exact ih _ _ _ h
  exact ⟨.nx, e2, c1, by simp only [evS, h1, RS.ofs, key _ _ _ _ h2], q⟩
theorem WS_par2 {i j : Nat} {a b : E} (h : Wes T cl [a, b] env c fun ds c => ∃ e2, TGs [.n i, .n j] ds env e2 ∧ N e2 c) : WS T cl (.par [i, j] [a, b]) env c N R B K := WS_par h
theorem WS_par3 {i j k : Nat} {a b d : E} (h : Wes T cl [a, b, d] env c fun ds c => ∃ e2, TGs [.n i, .n j, .n k] ds env e2 ∧ N e2 c) : WS T cl (.par [i, j, k] [a, b, d]) env c N R B K := WS_par h
theorem WS_parO {i : Nat} {js : List Nat} {ef : D → Env} (hs : ∀ d, SetE env i (some d) (ef d)) (h : We T cl e env c fun d c => Wes T cl es env c fun ds c => ds.all lfree = true ∧ ∃ e2, setAll js ds (ef d) = some e2 ∧ N e2 c) : WS T cl (.parO i e js es) env c N R B K := by
  obtain ⟨x, c1, h1, xs, c2, h2, h3, e2, h4, q⟩ := h
  exact ⟨.nx, e2, c2, by simp only [evS, h1, RS.of, h2, RS.ofs, h3, if_true, show env.set i (some x) = _ from hs x, h4], q⟩
theorem WS_app {i : Nat} {ds : List D} {ef : D → Env} (hi : env[i]? = some (some (.own ds))) (hs : ∀ d, SetE env i (some (.own (ds ++ [d]))) (ef d)) (hz : ds.length < szl) (h : We T cl e env c fun d c => ∃ d2, Nm d d2 ∧ N (ef d2) c) : WS T cl (.app i e) env c N R B K := by
  obtain ⟨x, c1, h1, d2, n2, q⟩ := h
  exact ⟨_, _, _, by simp only [evS, hi, h1, RS.of]; rw [if_pos hz], by show N (env.set i (some (.own (ds ++ [norm x])))) c1; rw [show norm x = d2 from n2, show env.set i _ = _ from hs d2]; exact q⟩
theorem WS_ret (h0 : isVbE e = false) (h : We T cl e env c fun d c => R d c) : WS T cl (.ret e) env c N R B K := by
  obtain ⟨x, c1, h1, q⟩ := h
  exact ⟨_, _, _, bs_ret (by intro i z; rw [z] at h0; cases h0) h1, q⟩
theorem WS_retvb {i : Nat} (h : env[i]? = some (some d)) (q : R d c) : WS T cl (.ret (.vb i)) env c N R B K := ⟨.rt d, env, c, by simp only [evS, h], q⟩
theorem WS_ret0 (q : R .non c) : WS T cl .ret0 env c N R B K := ⟨.rt .non, env, c, by simp only [evS], q⟩
theorem WS_pass (h : N env c) : WS T cl .pass env c N R B K := ⟨.nx, env, c, by simp only [evS], h⟩
theorem WS_brk (h : B env c) : WS T cl .brk env c N R B K := ⟨.bk, env, c, by simp only [evS], h⟩
theorem WS_cont (h : K env c) : WS T cl .cont env c N R B K := ⟨.ct, env, c, by simp only [evS], h⟩
theorem WS_ife (h : Wt T cl t env c fun k c => Wif k (WSs T cl p env c N R B K) (WSs T cl q env c N R B K)) : WS T cl (.ife t p q) env c N R B K := by
  obtain ⟨k, c1, h1, q1, q2⟩ := h
  cases k with
  | true => obtain ⟨f, e2, c2, h2, q⟩ := q1 rfl; exact ⟨f, e2, c2, by rw [bs_sifT h1]; exact h2, q⟩
  | false => obtain ⟨f, e2, c2, h2, q⟩ := q2 rfl; exact ⟨f, e2, c2, by rw [bs_sifF h1]; exact h2, q⟩
theorem WS_fz {is : List Nat} (h0 : FZ env is e1) (h : WS T cl s e1 c N R B K) : WS T cl (.fz is s) env c N R B K := by
  obtain ⟨f, e2, c2, h2, q⟩ := h
  exact ⟨f, e2, c2, bs_fz (by rw [show frz env is = e1 from h0]; exact h2), q⟩
theorem WS_fr {t : Tg} {it : E} (h : Wi T cl it env c fun xs c => WFor T cl t p xs env c N R) : WS T cl (.fr t it p) env c N R B K := by
  obtain ⟨xs, c1, h1, f, e2, c2, h2, q⟩ := h
  refine ⟨f, e2, c2, by rw [bs_for h1]; exact h2, ?_⟩
  cases f <;> first | exact q | exact absurd q id
theorem WS_wh (h : WWh T cl t p T.wf env c N R) : WS T cl (.wh t p) env c N R B K := by
  obtain ⟨f, e2, c2, h2, q⟩ := h
  refine ⟨f, e2, c2, by simp only [evS]; exact h2, ?_⟩
  cases f <;> first | exact q | exact absurd q id
theorem WS_aug {i : Nat} {o : Bop} {x : Int} {ef : D → Env} (hi : env[i]? = some (some (.int x))) (hs : ∀ d, SetE env i (some d) (ef d)) (h : We T cl e env c fun y c => So (augv o x y) fun z => N (ef (.int z)) c) : WS T cl (.aug i o e) env c N R B K := by
  obtain ⟨y, c1, h1, z, h2, q⟩ := h
  exact ⟨.nx, env.set i (some (.int z)), c1, by simp only [evS, hi, h1, RS.of, h2], by show N (env.set i _) c1; rw [show env.set i (some (.int z)) = _ from hs (.int z)]; exact q⟩
/-- x[k] = e on a list of one's own -/
theorem WS_put {i : Nat} {k : E} {ds : List D} {ef : List D → Env} (hi : env[i]? = some (some (.own ds))) (hs : ∀ d, SetE env i (some (.own d)) (ef d)) (h : We T cl e env c fun y c => We T cl k env c fun z c => So (match z with | .int j => L2.ixN ds.length j | _ => none) fun j => ∃ y2, Nm y y2 ∧ N (ef (ds.set j y2)) c) : WS T cl (.put i k e) env c N R B K := by
  obtain ⟨y, c1, h1, z, c2, h2, j, h3, y2, n2, q⟩ := h
  cases z <;> first | cases h3 | skip
  refine ⟨.nx, env.set i (some (.own (ds.set j (norm y)))), c2, ?_, ?_⟩
  · simp only [evS, h1, RS.of, hasB, hi, if_true, h2, putv]
    rw [show L2.ixN ds.length _ = some j from h3]
  · show N (env.set i (some (.own (ds.set j (norm y))))) c2
    rw [show norm y = y2 from n2, show env.set i _ = _ from hs (ds.set j y2)]; exact q
/-- x[k] = e on the shared list -/
theorem WS_cup {i : Nat} {k : E} (hi : env[i]? = some (some .cup)) (h : We T cl e env c fun y c => We T cl k env c fun z c => So (match y, z, c with | .int y, .int j, some (p, q) => if j = 0 then some (y, q) else if j = 1 then some (p, y) else none | _, _, _ => none) fun c2 => N env (some c2)) : WS T cl (.put i k e) env c N R B K := by
  obtain ⟨y, c1, h1, z, c2, h2, c3, h3, q⟩ := h
  cases y <;> cases z <;> first | cases h3 | skip
  cases c2 with
  | none => cases h3
  | some pq =>
    obtain ⟨p, q'⟩ := pq
    refine ⟨.nx, env, some c3, ?_, q⟩
    rename_i y j
    have h3 : (if j = 0 then some (y, q') else if j = 1 then some (p, y) else none) = some c3 := h3
    simp only [evS, h1, RS.of, hasB, hi, if_true, h2, putv]
    by_cases j0 : j = 0
    · rw [if_pos j0] at h3 ⊢
      cases h3; rfl
    · rw [if_neg j0] at h3 ⊢
      by_cases j1 : j = 1
      · rw [if_pos j1] at h3 ⊢
        cases h3; rfl
      · rw [if_neg j1] at h3
        cases h3
/-! ### loops -/
theorem WFor_nil {t : Tg} (h : N env c) : WFor T cl t p [] env c N R := ⟨.nx, _, _, rfl, h⟩
theorem WFor_cons {t : Tg} {x : D} {xs : List D} (h : ∃ e2, TG t x env e2 ∧ WSs T cl p e2 c (fun e c => WFor T cl t p xs e c N R) R N (fun e c => WFor T cl t p xs e c N R)) : WFor T cl t p (x :: xs) env c N R := by
  obtain ⟨e2, h1, f, e3, c3, h3, h4⟩ := h
  have step : forGo (fun x env c => match tgt t x env with | some e2 => evSs T cl p e2 c | none => .no) (x :: xs) env c = (evSs T cl p e2 c).turn (forGo (fun x env c => match tgt t x env with | some e2 => evSs T cl p e2 c | none => .no) xs) := by
    rw [forGo]
    simp only [show tgt t x env = some e2 from h1]
  cases f with
  | nx => obtain ⟨g, e4, c4, h5, h6⟩ := h4; exact ⟨g, e4, c4, by rw [step, h3]; exact h5, h6⟩
  | ct => obtain ⟨g, e4, c4, h5, h6⟩ := h4; exact ⟨g, e4, c4, by rw [step, h3]; exact h5, h6⟩
  | bk => exact ⟨.nx, e3, c3, by rw [step, h3]; rfl, h4⟩
  | rt d => exact ⟨.rt d, e3, c3, by rw [step, h3]; rfl, h4⟩
/-- a loop over a list, by what holds before the turn of each place -/
theorem WFor_inv {t : Tg} {xs : List D} (I : Nat → Env → C → Prop) (h0 : I 0 env c)
    (hs : ∀ (j : Nat) (x : D) (e : Env) (c : C), xs[j]? = some x → I j e c → ∃ e2, TG t x e e2 ∧ WSs T cl p e2 c (I (j + 1)) R N (I (j + 1)))
    (hN : ∀ e c, I xs.length e c → N e c) : WFor T cl t p xs env c N R := by
  suffices H : ∀ (ys : List D) (i : Nat) (env : Env) (c : C), (∀ j x, ys[j]? = some x → xs[i + j]? = some x) → i + ys.length = xs.length → I i env c → WFor T cl t p ys env c N R from H xs 0 env c (fun j x h => by rw [Nat.zero_add]; exact h) (Nat.zero_add _) h0
  intro ys
  induction ys with
  | nil => intro i env c _ hl hi; exact WFor_nil (hN _ _ (by rw [← hl]; exact hi))
  | cons y ys ih =>
    intro i env c hj hl hi
    obtain ⟨e2, h1, h2⟩ := hs i y env c (hj 0 y rfl) hi
    have next : ∀ e c, I (i + 1) e c → WFor T cl t p ys e c N R := fun e c h => ih (i + 1) e c (fun j x hx => by
      have := hj (j + 1) x (by simpa using hx)
      rw [show i + (j + 1) = i + 1 + j by omega] at this
      exact this) (by simp only [List.length_cons] at hl; omega) h
    exact WFor_cons ⟨e2, h1, WSs_m next (fun _ _ h => h) (fun _ _ h => h) next h2⟩
/-- over a list of things of one kind -/
theorem WFor_map {t : Tg} {α : Type} {L : List α} {φ : α → D} (I : Nat → Env → C → Prop) (h0 : I 0 env c)
    (hs : ∀ (j : Nat) (h : j < L.length) (e : Env) (c : C), I j e c → ∃ e2, TG t (φ L[j]) e e2 ∧ WSs T cl p e2 c (I (j + 1)) R N (I (j + 1)))
    (hN : ∀ e c, I L.length e c → N e c) : WFor T cl t p (L.map φ) env c N R := by
  refine WFor_inv I h0 (fun j x e c hx hi => ?_) (by rw [List.length_map]; exact hN)
  rw [List.getElem?_map] at hx
  by_cases h : j < L.length
  · rw [List.getElem?_eq_getElem h] at hx
    have hx : some (φ L[j]) = some x := hx
    cases hx
    exact hs j h e c hi
  · rw [List.getElem?_eq_none (by omega)] at hx
    cases hx
/-- over a range -/
theorem WFor_rng {t : Tg} {lo : Int} {n : Nat} (I : Int → Env → C → Prop) (h0 : I lo env c)
    (hs : ∀ (i : Int) (e : Env) (c : C), lo ≤ i → i < lo + n → I i e c → ∃ e2, TG t (.int i) e e2 ∧ WSs T cl p e2 c (I (i + 1)) R N (I (i + 1)))
    (hN : ∀ e c, I (lo + n) e c → N e c) : WFor T cl t p (rngI lo n) env c N R := by
  refine WFor_inv (fun j => I (lo + j)) (by simpa using h0) (fun j x e c hx hi => ?_) (by rw [rngI_length]; exact hN)
  obtain ⟨hj, rfl⟩ := rngI_at hx
  have := hs (lo + j) e c (by omega) (by omega) hi
  have e1 : lo + (j : Int) + 1 = lo + ((j + 1 : Nat) : Int) := by omega
  rw [e1] at this
  exact this
/-- nothing is kept but S; any list -/
theorem WFor_all {t : Tg} {xs : List D} (I : Env → C → Prop) (h0 : I env c)
    (hs : ∀ (x : D) (e : Env) (c : C), x ∈ xs → I e c → ∃ e2, TG t x e e2 ∧ WSs T cl p e2 c I R N I)
    (hN : ∀ e c, I e c → N e c) : WFor T cl t p xs env c N R :=
  WFor_inv (fun _ => I) h0 (fun j x e c hx hi => hs x e c (List.mem_of_getElem? hx) hi) hN
/-- while, by a measure -/
theorem WWh_inv (M : Env → C → Nat → Prop) : ∀ (n m : Nat) (env : Env) (c : C), m < n → M env c m →
    (∀ m env c, M env c m → Wt T cl t env c fun k c2 => Wif k (WSs T cl p env c2 (fun e c => ∃ m', m' < m ∧ M e c m') R N (fun e c => ∃ m', m' < m ∧ M e c m')) (N env c2)) → WWh T cl t p n env c N R
  | 0, m, _, _, hm, _, _ => absurd hm (by omega)
  | n + 1, m, env, c, hm, hM, hs => by
    obtain ⟨k, c1, h1, q1, q2⟩ := hs m env c hM
    cases k with
    | false => exact ⟨.nx, env, c1, by rw [whileGo, h1]; simp only [RS.ofs, if_false, Bool.false_eq_true], q2 rfl⟩
    | true =>
      obtain ⟨f, e3, c3, h3, h4⟩ := q1 rfl
      have step : whileGo (fun env c => evt T cl t env c) (fun env c => evSs T cl p env c) (n + 1) env c = (evSs T cl p env c1).turn (whileGo (fun env c => evt T cl t env c) (fun env c => evSs T cl p env c) n) := by
        rw [whileGo, h1]
        simp only [RS.ofs, if_true]
      cases f with
      | nx =>
        obtain ⟨m', hm', hM'⟩ := h4
        obtain ⟨g, e4, c4, h5, h6⟩ := WWh_inv M n m' e3 c3 (by omega) hM' hs
        exact ⟨g, e4, c4, by rw [step, h3]; exact h5, h6⟩
      | ct =>
        obtain ⟨m', hm', hM'⟩ := h4
        obtain ⟨g, e4, c4, h5, h6⟩ := WWh_inv M n m' e3 c3 (by omega) hM' hs
        exact ⟨g, e4, c4, by rw [step, h3]; exact h5, h6⟩
      | bk => exact ⟨.nx, e3, c3, by rw [step, h3]; rfl, h4⟩
      | rt d => exact ⟨.rt d, e3, c3, by rw [step, h3]; rfl, h4⟩
end
/-! ## comprehensions -/
theorem Wcd_nil (q : QB true c) : Wcd T cl [] env c QB := ⟨_, _, by simp only [evc], q⟩
theorem Wcd_one (h : Wt T cl e env c QB) : Wcd T cl [e] env c QB := by
  obtain ⟨k, c1, h1, q⟩ := h
  exact ⟨_, _, by simp only [evc, h1], q⟩
/-- any walk: what holds of the items so far -/
theorem WLc_inv {elt : E} {tg : Tg} {cond : List E} {own : List Nat} {xs : List D} {w : Env} (I : Nat → List D → C → Prop) (ho : own.all (noOwn env) = true) (hw : WP env own w) (hz : xs.length ≤ szl) (h0 : I 0 [] c)
    (hs : ∀ (j : Nat) (x : D) (acc : List D) (c : C), xs[j]? = some x → I j acc c → ∃ e2, TG tg x w e2 ∧ Wcd T cl cond e2 c fun k c => Wif k (We T cl elt e2 c fun y c => ∃ y2, Nm y y2 ∧ I (j + 1) (acc ++ [y2]) c) (I (j + 1) acc c))
    (hN : ∀ acc c, I xs.length acc c → Q (.own acc) c) : WLc T cl elt tg cond own xs env c Q := by
  unfold WLc
  simp only [ho, if_true]
  suffices H : ∀ (ys acc : List D) (i : Nat) (c : C), (∀ j x, ys[j]? = some x → xs[i + j]? = some x) → i + ys.length = xs.length → acc.length ≤ i → I i acc c → ∃ d c', lcGo (fun x c => match tgt tg x (wipes env own) with
        | some e2 => (evc T cl cond e2 c).bind fun b c => if b then (ev T cl elt e2 c).bind fun y c => .ok (some y) c else .ok none c
        | none => .no) ys acc c = .ok d c' ∧ Q d c' from H xs [] 0 c (fun j x h => by rw [Nat.zero_add]; exact h) (Nat.zero_add _) (Nat.le_refl _) h0
  intro ys
  induction ys with
  | nil => intro acc i c _ hl _ hi; exact ⟨_, _, rfl, hN _ _ (by rw [← hl]; exact hi)⟩
  | cons y ys ih =>
    intro acc i c hj hl ha hi
    obtain ⟨e2, h1, k, c1, h2, q1, q2⟩ := hs i y acc c (hj 0 y rfl) hi
    have hw : wipes env own = w := hw
    simp only [List.length_cons] at hl
    have nx : ∀ j x, ys[j]? = some x → xs[i + 1 + j]? = some x := fun j x hx => by
      have := hj (j + 1) x (by simpa using hx)
      rw [show i + (j + 1) = i + 1 + j by omega] at this
      exact this
    cases k with
    | true =>
      obtain ⟨z, c2, h3, z2, n2, h4⟩ := q1 rfl
      obtain ⟨d, c3, h5, h6⟩ := ih (acc ++ [z2]) (i + 1) c2 nx (by omega) (by simp; omega) h4
      refine ⟨d, c3, ?_, h6⟩
      rw [lcGo]
      simp only [hw, show tgt tg y w = some e2 from h1, h2, R.bind, if_true, h3]
      rw [if_pos (by omega), show norm z = z2 from n2]
      rw [hw] at h5
      exact h5
    | false =>
      obtain ⟨d, c3, h5, h6⟩ := ih acc (i + 1) c1 nx (by omega) (by omega) (q2 rfl)
      refine ⟨d, c3, ?_, h6⟩
      rw [lcGo]
      simp only [hw, show tgt tg y w = some e2 from h1, h2, R.bind, if_false, Bool.false_eq_true]
      rw [hw] at h5
      exact h5
/-- a walk over a written list, item by item -/
def WLg (T : Tab) (cl : Cl) (elt : E) (tg : Tg) (cond : List E) (w : Env) (xs acc : List D) (c : C) (Q : D → C → Prop) : Prop :=
  ∃ d c', lcGo (fun x c => match tgt tg x w with
        | some e2 => (evc T cl cond e2 c).bind fun b c => if b then (ev T cl elt e2 c).bind fun y c => .ok (some y) c else .ok none c
        | none => .no) xs acc c = .ok d c' ∧ Q d c'
def App (acc : List D) (y : D) (acc2 : List D) : Prop := acc ++ [y] = acc2
theorem app_nil {y : D} : App [] y [y] := rfl
theorem app_cons {x y : D} {l m : List D} (h : App l y m) : App (x :: l) y (x :: m) := by
  show x :: (l ++ [y]) = _
  rw [show l ++ [y] = m from h]
theorem WLc_lit {elt : E} {tg : Tg} {cond : List E} {own : List Nat} {xs : List D} {w : Env} (ho : own.all (noOwn env) = true) (hw : WP env own w) (h : WLg T cl elt tg cond w xs [] c Q) : WLc T cl elt tg cond own xs env c Q := by
  unfold WLc
  have hw : wipes env own = w := hw
  simp only [ho, if_true, hw]
  exact h
theorem WLg_nil {elt : E} {tg : Tg} {cond : List E} {w : Env} {acc : List D} (h : Q (.own acc) c) : WLg T cl elt tg cond w [] acc c Q := ⟨_, _, rfl, h⟩
theorem WLg_cons {elt : E} {tg : Tg} {cond : List E} {w : Env} {x : D} {xs acc : List D} (hz : acc.length < szl) (h : ∃ e2, TG tg x w e2 ∧ Wcd T cl cond e2 c fun k c => Wif k (We T cl elt e2 c fun y c => ∃ y2, Nm y y2 ∧ ∃ a2, App acc y2 a2 ∧ WLg T cl elt tg cond w xs a2 c Q) (WLg T cl elt tg cond w xs acc c Q)) : WLg T cl elt tg cond w (x :: xs) acc c Q := by
  obtain ⟨e2, h1, k, c1, h2, q1, q2⟩ := h
  cases k with
  | true =>
    obtain ⟨y, c2, h3, y2, n2, a2, h4, d, c3, h5, h6⟩ := q1 rfl
    refine ⟨d, c3, ?_, h6⟩
    rw [lcGo]
    simp only [show tgt tg x w = some e2 from h1, h2, R.bind, if_true, h3]
    rw [if_pos hz, show norm y = y2 from n2, show acc ++ [y2] = a2 from h4]
    exact h5
  | false =>
    obtain ⟨d, c3, h5, h6⟩ := q2 rfl
    refine ⟨d, c3, ?_, h6⟩
    rw [lcGo]
    simp only [show tgt tg x w = some e2 from h1, h2, R.bind, if_false, Bool.false_eq_true]
    exact h5
/-- nothing is drawn: the good ones, each made to something -/
theorem WLc_map {elt : E} {tg : Tg} {cond : List E} {own : List Nat} {α : Type} {L : List α} {φ : α → D} {w : Env} {e2 : α → Env} (p : α → Bool) (f : α → D) (ho : own.all (noOwn env) = true) (hw : WP env own w) (hz : L.length ≤ szl)
    (ht : ∀ a ∈ L, TG tg (φ a) w (e2 a)) (hp : ∀ a ∈ L, Wcd T cl cond (e2 a) c fun k c1 => k = p a ∧ c1 = c) (hf : ∀ a ∈ L, p a = true → We T cl elt (e2 a) c fun y c1 => Nm y (f a) ∧ c1 = c)
    (q : Q (.own ((L.filter p).map f)) c) : WLc T cl elt tg cond own (L.map φ) env c Q := by
  refine WLc_inv (fun j acc c1 => acc = ((L.take j).filter p).map f ∧ c1 = c) ho hw (by rw [List.length_map]; exact hz) ⟨by simp, rfl⟩ (fun j x acc c1 hx hi => ?_) (fun acc c1 hi => ?_)
  · obtain ⟨rfl, rfl⟩ := hi
    rw [List.getElem?_map] at hx
    by_cases h : j < L.length
    · rw [List.getElem?_eq_getElem h] at hx
      have hx : some (φ L[j]) = some x := hx
      cases hx
      refine ⟨e2 L[j], ht _ (List.getElem_mem h), ?_⟩
      obtain ⟨k, c1, h1, h2, h3⟩ := hp L[j] (List.getElem_mem h)
      subst h3
      refine ⟨k, c1, h1, ?_, ?_⟩
      · intro hk
        obtain ⟨y, c2, h4, h5, h6⟩ := hf L[j] (List.getElem_mem h) (by rw [← h2]; exact hk)
        refine ⟨y, c2, h4, f L[j], h5, ?_, h6⟩
        rw [List.take_succ_eq_append_getElem h, List.filter_append, List.map_append]
        rw [show List.filter p [L[j]] = [L[j]] by rw [List.filter_cons, ← h2, hk]; rfl]
        rfl
      · intro hk
        refine ⟨?_, rfl⟩
        rw [List.take_succ_eq_append_getElem h, List.filter_append, List.map_append]
        rw [show List.filter p [L[j]] = [] by rw [List.filter_cons, ← h2, hk]; rfl]
        simp
    · rw [List.getElem?_eq_none (by omega)] at hx
      cases hx
  · obtain ⟨rfl, rfl⟩ := hi
    rw [List.length_map, List.take_length]
    exact q
theorem WLc_map0 {elt : E} {tg : Tg} {own : List Nat} {α : Type} {L : List α} {φ : α → D} {w : Env} {e2 : α → Env} (f : α → D) (ho : own.all (noOwn env) = true) (hw : WP env own w) (hz : L.length ≤ szl)
    (ht : ∀ a ∈ L, TG tg (φ a) w (e2 a)) (hf : ∀ a ∈ L, We T cl elt (e2 a) c fun y c1 => Nm y (f a) ∧ c1 = c)
    (q : Q (.own (L.map f)) c) : WLc T cl elt tg [] own (L.map φ) env c Q := by
  refine WLc_map (fun _ => true) f ho hw hz ht (fun a _ => Wcd_nil ⟨rfl, rfl⟩) (fun a m _ => hf a m) ?_
  rw [List.filter_eq_self.mpr (fun _ _ => rfl)]
  exact q
/-- each item is drawn -/
theorem WLc_draw {elt : E} {tg : Tg} {own : List Nat} {xs : List D} {w : Env} {α : Type} (g : α → D) (P : α → Prop) (S : C → Prop) (ho : own.all (noOwn env) = true) (hw : WP env own w) (hz : xs.length ≤ szl) (h0 : S c)
    (hs : ∀ x ∈ xs, ∀ c, S c → ∃ e2, TG tg x w e2 ∧ We T cl elt e2 c fun y c => ∃ a, Nm y (g a) ∧ P a ∧ S c)
    (hN : ∀ (A : List α) c, A.length = xs.length → (∀ a ∈ A, P a) → S c → Q (.own (A.map g)) c) : WLc T cl elt tg [] own xs env c Q := by
  refine WLc_inv (fun j acc c => ∃ A : List α, A.length = j ∧ acc = A.map g ∧ (∀ a ∈ A, P a) ∧ S c) ho hw hz ⟨[], rfl, rfl, nofun, h0⟩ (fun j x acc c hx hi => ?_) (fun acc c hi => ?_)
  · obtain ⟨A, h1, rfl, h3, h4⟩ := hi
    obtain ⟨e2, h5, h6⟩ := hs x (List.mem_of_getElem? hx) c h4
    refine ⟨e2, h5, Wcd_nil (Wif_t (We_m ?_ h6))⟩
    rintro y c ⟨a, n1, pa, sc⟩
    refine ⟨g a, n1, A ++ [a], by simp [h1], by simp, ?_, sc⟩
    intro z hz
    rcases List.mem_append.mp hz with hz | hz
    · exact h3 z hz
    · rw [List.mem_singleton.mp hz]; exact pa
  · obtain ⟨A, h1, rfl, h3, h4⟩ := hi
    exact hN A c h1 h3 h4
end
/-! ## a def -/
theorem Wc_fn {T : Tab} {k j : Nat} {f : Fn} {ds : List D} {c : C} {Q : D → C → Prop} {e0 : Env} (hf : T.funs[j]? = some f) (hl : ds.length = f.np) (he : entry f ds = e0) (h : WSs T (run T k) f.body e0 c (fun _ c => Q .non c) Q (fun _ _ => False) (fun _ _ => False)) : Wc (run T (k + 1)) j ds c Q := by
  obtain ⟨g, e1, c1, h1, h2⟩ := h
  have step : run T (k + 1) j ds c = (evSs T (run T k) f.body (entry f ds) c).out := by
    show callBy T (run T k) j ds c = _
    unfold callBy
    rw [hf]
    exact if_pos hl
  rw [← he] at h1
  cases g with
  | nx => exact ⟨.non, c1, by rw [step, h1]; rfl, h2⟩
  | rt d => exact ⟨d, c1, by rw [step, h1]; rfl, h2⟩
  | bk => exact absurd h2 id
  | ct => exact absurd h2 id
end PX

/-! # PX: values, told backwards; the step px -/
namespace PX
open PySem
theorem nw_int {i : Int} : nown (.int i) := nofun
theorem nw_bl {i : Bool} : nown (.bl i) := nofun
theorem nw_non : nown .non := nofun
theorem nw_str {i : Str} : nown (.str i) := nofun
theorem nw_tup {i : List D} : nown (.tup i) := nofun
theorem nw_lst {i : List D} : nown (.lst i) := nofun
theorem nw_scr {i : List Int} : nown (.scr i) := nofun
theorem nw_cup : nown .cup := nofun
theorem nw_fn {i : Nat} : nown (.fn i) := nofun
/-- a def's slots -/
def En (ds : List D) (n : Nat) (e : Env) : Prop := ds.length ≤ n ∧ ds.map some ++ List.replicate (n - ds.length) none = e
theorem en_cons {d : D} {ds : List D} {n : Nat} {e : Env} (h : En ds n e) : En (d :: ds) (n + 1) (some d :: e) := by
  obtain ⟨h1, h2⟩ := h
  refine ⟨by simp; omega, ?_⟩
  rw [List.map_cons, List.length_cons, show n + 1 - (ds.length + 1) = n - ds.length by omega, List.cons_append, h2]
theorem en_z : En [] 0 [] := ⟨Nat.le_refl _, rfl⟩
theorem en_s {n : Nat} {e : Env} (h : En [] n e) : En [] (n + 1) (none :: e) := by
  obtain ⟨_, h2⟩ := h
  refine ⟨by simp, ?_⟩
  simp only [List.map_nil, List.length_nil, Nat.sub_zero, List.nil_append] at h2 ⊢
  rw [List.replicate_succ, h2]
theorem Wc_en {T : Tab} {k j : Nat} {f : Fn} {ds : List D} {c : C} {Q : D → C → Prop} {e0 : Env} (hk : 0 < k) (hf : T.funs[j]? = some f) (hl : ds.length = f.np) (he : En ds f.ns e0) (h : ∀ k', k = k' + 1 → WSs T (run T k') f.body e0 c (fun _ c => Q .non c) Q (fun _ _ => False) (fun _ _ => False)) : Wc (run T k) j ds c Q := by
  obtain ⟨k', rfl⟩ : ∃ k', k = k' + 1 := ⟨k - 1, by omega⟩
  exact Wc_fn hf hl he.2 (h k' rfl)
theorem mul_l (i j : Int) (h : -(2 ^ 64) < j ∧ j < 2 ^ 64) : mulOk i j = true := by
  simp only [mulOk, decide_eq_true h, Bool.true_or, Bool.or_true]
theorem mul_r (i j : Int) (h : -(2 ^ 64) < i ∧ i < 2 ^ 64) : mulOk i j = true := by
  simp only [mulOk, decide_eq_true h, Bool.true_or, Bool.or_true]
theorem nb {m : Int} (h0 : 0 < m) (h : m < 2 ^ 64) : m.natAbs < 2 ^ 9000 := by
  have : m.natAbs < 2 ^ 64 := by omega
  exact Nat.lt_of_lt_of_le this (Nat.pow_le_pow_right (by omega) (by omega))
section
variable {K : D → Prop} {KB : Bool → Prop} {i j : Int} {c : C} {α : Type} {L : List α} {φ : α → D}
/-! numbers -/
theorem So_add (k : K (.int (i + j))) : So (binv .add (.int i) (.int j)) K := ⟨_, rfl, k⟩
theorem So_sub (k : K (.int (i - j))) : So (binv .sub (.int i) (.int j)) K := ⟨_, rfl, k⟩
theorem So_mulr (h : -(2 ^ 64) < i ∧ i < 2 ^ 64) (k : K (.int (i * j))) : So (binv .mul (.int i) (.int j)) K := ⟨_, by show (if mulOk i j then _ else _) = _; rw [if_pos (mul_r i j h)], k⟩
theorem So_mull (h : -(2 ^ 64) < j ∧ j < 2 ^ 64) (k : K (.int (i * j))) : So (binv .mul (.int i) (.int j)) K := ⟨_, by show (if mulOk i j then _ else _) = _; rw [if_pos (mul_l i j h)], k⟩
theorem So_mulb (h : mulOk i j = true) (k : K (.int (i * j))) : So (binv .mul (.int i) (.int j)) K := ⟨_, by show (if mulOk i j then _ else _) = _; rw [if_pos h], k⟩
theorem So_fdiv (h0 : 0 < j) (h : j < 2 ^ 64) (k : K (.int (i / j))) : So (binv .fdiv (.int i) (.int j)) K := ⟨_, if_pos ⟨h0, .inl (nb h0 h)⟩, k⟩
theorem So_fdivN (h0 : 0 < j) (h : i.natAbs < 2 ^ 4000 * j.natAbs) (k : K (.int (i / j))) : So (binv .fdiv (.int i) (.int j)) K := ⟨_, if_pos ⟨h0, .inr h⟩, k⟩
theorem So_mod (h0 : 0 < j) (k : K (.int (i % j))) : So (binv .mod (.int i) (.int j)) K := ⟨_, if_pos h0, k⟩
theorem So_pow {v : Int} (h : 0 ≤ j ∧ j ≤ 1000000) (h2 : -(2 ^ 64) < i ∧ i < 2 ^ 64) (hv : i ^ j.toNat = v) (k : K (.int v)) : So (binv .pow (.int i) (.int j)) K := ⟨_, by
  show (if 0 ≤ j ∧ j ≤ 1000000 ∧ i.natAbs < 2 ^ 64 then some (D.int (i ^ j.toNat)) else none) = some (.int v)
  rw [if_pos ⟨h.1, h.2, by omega⟩, hv], k⟩
theorem So_neg (k : K (.int (-i))) : So (match D.int i with | .int i => some (D.int (-i)) | _ => none) K := ⟨_, rfl, k⟩
theorem So_abs (k : K (.int (if i < 0 then -i else i))) : So (b1v .abs (.int i)) K := ⟨_, rfl, k⟩
theorem So_toint (k : K (.int i)) : So (b1v .int (.int i)) K := ⟨_, rfl, k⟩
theorem So_tointb {b : Bool} (k : K (.int (if b then 1 else 0))) : So (b1v .int (.bl b)) K := ⟨_, rfl, k⟩
theorem So_min (k : K (.int (min i j))) : So (b2v .min (.int i) (.int j)) K := ⟨.int (min i j), by
  show some (D.int (if j < i then j else i)) = _
  rw [show (if j < i then j else i) = min i j by rw [Int.min_def]; split <;> split <;> omega], k⟩
theorem So_max (k : K (.int (max i j))) : So (b2v .max (.int i) (.int j)) K := ⟨.int (max i j), by
  show some (D.int (if j > i then j else i)) = _
  rw [show (if j > i then j else i) = max i j by rw [Int.max_def]; split <;> split <;> omega], k⟩
/-! tests -/
theorem So_ltI (k : KB (decide (i < j))) : So (cmpv .lt (.int i) (.int j)) KB := ⟨_, rfl, k⟩
theorem So_le (k : KB (decide (i ≤ j))) : So (cmpv .le (.int i) (.int j)) KB := ⟨_, rfl, k⟩
theorem So_gt (k : KB (decide (j < i))) : So (cmpv .gt (.int i) (.int j)) KB := ⟨_, rfl, k⟩
theorem So_ge (k : KB (decide (j ≤ i))) : So (cmpv .ge (.int i) (.int j)) KB := ⟨_, rfl, k⟩
theorem deq_int (i j : Int) : deq (.int i) (.int j) = some (decide (i = j)) := by
  have h1 : SeqAt.shaped (.int i) = true := by rfl
  have h2 : SeqAt.shaped (.int j) = true := by rfl
  have h3 : PyData.eqv (.int i) (.int j) = decide (i = j) := by
    rw [PyData.eqv]
    by_cases h : i = j
    · subst h; simp
    · rw [decide_eq_false h]; simpa using h
  unfold deq
  simp [pd, h1, h2, h3]
theorem So_eqI (k : KB (decide (i = j))) : So (cmpv .eq (.int i) (.int j)) KB := ⟨_, deq_int i j, k⟩
theorem So_neI (k : KB (!decide (i = j))) : So (cmpv .ne (.int i) (.int j)) KB := ⟨_, by show (deq (.int i) (.int j)).map (!·) = _; rw [deq_int]; rfl, k⟩
theorem deq_bl (a b : Bool) : deq (.bl a) (.bl b) = some (decide (a = b)) := by cases a <;> cases b <;> rfl
theorem So_eqB {a b : Bool} (k : KB (decide (a = b))) : So (cmpv .eq (.bl a) (.bl b)) KB := ⟨_, deq_bl a b, k⟩
theorem So_neB {a b : Bool} (k : KB (!decide (a = b))) : So (cmpv .ne (.bl a) (.bl b)) KB := ⟨_, by show (deq (.bl a) (.bl b)).map (!·) = _; rw [deq_bl]; rfl, k⟩
theorem So_isn_t (k : KB true) : So (cmpv .is .non .non) KB := ⟨_, rfl, k⟩
theorem So_isnn_f (k : KB false) : So (cmpv .isnot .non .non) KB := ⟨_, rfl, k⟩
theorem isv_non {d : D} (h : d ≠ .non) : isv d .non = some false := by cases d <;> first | exact absurd rfl h | rfl
theorem So_isn_f {d : D} (h : d ≠ .non) (k : KB false) : So (cmpv .is d .non) KB := ⟨_, isv_non h, k⟩
theorem So_isnn_t {d : D} (h : d ≠ .non) (k : KB true) : So (cmpv .isnot d .non) KB := ⟨_, by show (isv d .non).map (!·) = _; rw [isv_non h]; rfl, k⟩
theorem So_isb {a b : Bool} (k : KB (decide (a = b))) : So (cmpv .is (.bl a) (.bl b)) KB := ⟨_, rfl, k⟩
theorem So_isnb {a b : Bool} (k : KB (!decide (a = b))) : So (cmpv .isnot (.bl a) (.bl b)) KB := ⟨_, rfl, k⟩
theorem So_truthI (k : KB (i != 0)) : So (truth (.int i)) KB := ⟨_, rfl, k⟩
theorem So_truthB {b : Bool} (k : KB b) : So (truth (.bl b)) KB := ⟨_, rfl, k⟩
theorem So_truthN (k : KB false) : So (truth .non) KB := ⟨_, rfl, k⟩
theorem So_boolB {b : Bool} (k : KB b) : So (match D.bl b with | .bl k => some k | _ => none) KB := ⟨_, rfl, k⟩
/-! kinds -/
theorem So_isi {d : D} {u : Ty} {b : Bool} (h : isiv d u = some b) (k : KB b) : So (isiv d u) KB := ⟨_, h, k⟩
theorem isi_int : isiv (.int i) .int = some true := rfl
theorem isi_intb : isiv (.int i) .bool = some false := rfl
theorem isi_intt : isiv (.int i) .tuple = some false := rfl
theorem isi_ints : isiv (.int i) .str = some false := rfl
theorem isi_intl : isiv (.int i) .list = some false := rfl
theorem isi_tupi {ds : List D} : isiv (.tup ds) .int = some false := rfl
theorem isi_tupb {ds : List D} : isiv (.tup ds) .bool = some false := rfl
theorem isi_tupt {ds : List D} : isiv (.tup ds) .tuple = some true := rfl
theorem isi_tups {ds : List D} : isiv (.tup ds) .str = some false := rfl
theorem isi_tupl {ds : List D} : isiv (.tup ds) .list = some false := rfl
theorem isi_non {u : Ty} : isiv .non u = some false := rfl
theorem isi_bli {b : Bool} : isiv (.bl b) .int = some true := rfl
theorem isi_blb {b : Bool} : isiv (.bl b) .bool = some true := rfl
theorem isi_blt {b : Bool} : isiv (.bl b) .tuple = some false := rfl
theorem isi_bls {b : Bool} : isiv (.bl b) .str = some false := rfl
theorem isi_strs {x : Str} : isiv (.str x) .str = some true := rfl
theorem isi_stri {x : Str} : isiv (.str x) .int = some false := rfl
theorem isi_strt {x : Str} : isiv (.str x) .tuple = some false := rfl
theorem isi_lstl {ds : List D} : isiv (.lst ds) .list = some true := rfl
theorem isi_lstt {ds : List D} : isiv (.lst ds) .tuple = some false := rfl
theorem isi_lsti {ds : List D} : isiv (.lst ds) .int = some false := rfl
/-! lists -/
/-- x holds the items ds -/
def Its (x : D) (ds : List D) : Prop := items x = some ds
theorem its_tup {ds : List D} : Its (.tup ds) ds := rfl
theorem its_lst {ds : List D} : Its (.lst ds) ds := rfl
theorem its_own {ds : List D} : Its (.own ds) ds := rfl
theorem its_scr {l : List Int} : Its (.scr l) (l.map .int) := rfl
theorem Its.ix {x : D} {ds : List D} (h : Its x ds) {i : Int} {c : C} : ixv x i c = (L2.atI ds i).map norm := by
  cases x <;> first | (cases h; done) | (cases h; rfl)
theorem So_items {x : D} {ds : List D} {KL : List D → Prop} (h : Its x ds) (k : KL ds) : So (items x) KL := ⟨_, h, k⟩
theorem So_ix {x : D} {ds : List D} {d e : D} (h : Its x ds) (hi : L2.atI ds i = some d) (n : Nm d e) (k : K e) : So (match D.int i with | .int i => ixv x i c | _ => none) K :=
  ⟨e, by show ixv x i c = _; rw [h.ix, hi]; exact congrArg some n, k⟩
theorem So_ixM {x : D} (h : Its x (L.map φ)) (hn : ∀ a, norm (φ a) = φ a) (hi : 0 ≤ i ∧ i < L.length) (k : K (φ (L[i.toNat]'(by omega)))) : So (match D.int i with | .int i => ixv x i c | _ => none) K :=
  ⟨_, by
    show ixv x i c = _
    rw [h.ix, atI_nat hi.1 (by rw [List.length_map]; exact hi.2), List.getElem?_map, List.getElem?_eq_getElem (by omega)]
    exact congrArg some (hn _), k⟩
theorem So_ixL {x : D} (h : Its x (L.map φ)) (hn : ∀ a, norm (φ a) = φ a) (hi : 0 < L.length) (k : K (φ (L[L.length - 1]'(by omega)))) : So (match D.int (-1) with | .int i => ixv x i c | _ => none) K :=
  ⟨_, by
    show ixv x (-1) c = _
    rw [h.ix, atI_last (by rw [List.length_map]; exact hi), List.length_map, List.getElem?_map, List.getElem?_eq_getElem (by omega)]
    exact congrArg some (hn _), k⟩
theorem So_cup0 {p q : Int} (k : K (.int p)) : So (match D.int 0 with | .int i => ixv .cup i (some (p, q)) | _ => none) K := ⟨_, rfl, k⟩
theorem So_cup1 {p q : Int} (k : K (.int q)) : So (match D.int 1 with | .int i => ixv .cup i (some (p, q)) | _ => none) K := ⟨_, rfl, k⟩
theorem So_put0 {y p q : Int} {KC : Int × Int → Prop} (k : KC (y, q)) : So (match D.int y, D.int 0, some (p, q) with | .int y, .int j, some (p, q) => if j = 0 then some (y, q) else if j = 1 then some (p, y) else none | _, _, _ => none) KC := ⟨_, rfl, k⟩
theorem So_put1 {y p q : Int} {KC : Int × Int → Prop} (k : KC (p, y)) : So (match D.int y, D.int 1, some (p, q) with | .int y, .int j, some (p, q) => if j = 0 then some (y, q) else if j = 1 then some (p, y) else none | _, _, _ => none) KC := ⟨_, rfl, k⟩
theorem b1_len {x : D} {ds : List D} (h : Its x ds) : b1v .len x = some (.int ds.length) := by
  cases x <;> first | (cases h; done) | (cases h; rfl)
theorem So_lenL {x : D} {ds : List D} {n : Int} (h : Its x ds) (hn : (ds.length : Int) = n) (k : K (.int n)) : So (b1v .len x) K := ⟨_, by rw [b1_len h, hn], k⟩
theorem len_map : ((L.map φ).length : Int) = L.length := by rw [List.length_map]
section
variable {d0 d1 d2 d3 d4 d5 d6 d7 : D}
theorem len0 : (([] : List D).length : Int) = 0 := rfl
theorem len1 : (([d0] : List D).length : Int) = 1 := rfl
theorem len2 : (([d0, d1] : List D).length : Int) = 2 := rfl
theorem len3 : (([d0, d1, d2] : List D).length : Int) = 3 := rfl
theorem len4 : (([d0, d1, d2, d3] : List D).length : Int) = 4 := rfl
theorem len5 : (([d0, d1, d2, d3, d4] : List D).length : Int) = 5 := rfl
theorem len6 : (([d0, d1, d2, d3, d4, d5] : List D).length : Int) = 6 := rfl
theorem len7 : (([d0, d1, d2, d3, d4, d5, d6] : List D).length : Int) = 7 := rfl
end
theorem intsD_map : ∀ l : List Int, intsD (l.map .int) = some l
  | [] => rfl
  | i :: l => by rw [List.map_cons, intsD, intsD_map l]; rfl
theorem boolsD_map {f : α → Bool} : ∀ l : List α, boolsD (l.map fun a => .bl (f a)) = some (l.map f)
  | [] => rfl
  | i :: l => by rw [List.map_cons, boolsD, boolsD_map l]; rfl
def notT (x : D) : Prop := ∀ ds, x ≠ .tup ds
theorem notT_own {ds : List D} : notT (.own ds) := nofun
theorem notT_lst {ds : List D} : notT (.lst ds) := nofun
theorem So_sum {x : D} {l : List Int} (t : notT x) (h : Its x (l.map .int)) (k : K (.int l.sum)) : So (b1v .sum x) K := ⟨.int l.sum, by
  cases x <;> first | (cases h; done) | exact absurd rfl (t _) | skip
  all_goals
    have h := Option.some.inj h
    simp only [b1v, items, h, intsD_map, Option.map_some], k⟩
theorem So_sorted {x : D} {l : List Int} (t : notT x) (h : Its x (l.map .int)) (k : K (.own ((sortI l).map .int))) : So (b1v .sorted x) K := ⟨.own ((sortI l).map .int), by
  cases x <;> first | (cases h; done) | exact absurd rfl (t _) | skip
  all_goals
    have h := Option.some.inj h
    simp only [b1v, items, h, intsD_map], k⟩
theorem So_minL {x : D} {m : Int} {l : List Int} (t : notT x) (h : Its x ((m :: l).map .int)) (k : K (.int (leastI m l))) : So (b1v .min x) K := ⟨.int (leastI m l), by
  cases x <;> first | (cases h; done) | exact absurd rfl (t _) | skip
  all_goals
    have h := Option.some.inj h
    simp only [b1v, items, h, intsD_map], k⟩
theorem So_maxL {x : D} {m : Int} {l : List Int} (t : notT x) (h : Its x ((m :: l).map .int)) (k : K (.int (mostI m l))) : So (b1v .max x) K := ⟨.int (mostI m l), by
  cases x <;> first | (cases h; done) | exact absurd rfl (t _) | skip
  all_goals
    have h := Option.some.inj h
    simp only [b1v, items, h, intsD_map], k⟩
theorem So_all {x : D} {f : α → Bool} (t : notT x) (h : Its x (L.map fun a => .bl (f a))) (k : K (.bl (L.all f))) : So (b1v .all x) K := ⟨.bl (L.all f), by
  have e : (L.map f).all id = L.all f := by rw [List.all_map]; rfl
  cases x <;> first | (cases h; done) | exact absurd rfl (t _) | skip
  all_goals
    have h := Option.some.inj h
    simp only [b1v, items, h, boolsD_map, Option.map_some, e], k⟩
theorem So_any {x : D} {f : α → Bool} (t : notT x) (h : Its x (L.map fun a => .bl (f a))) (k : K (.bl (L.any f))) : So (b1v .any x) K := ⟨.bl (L.any f), by
  have e : (L.map f).any id = L.any f := by rw [List.any_map]; rfl
  cases x <;> first | (cases h; done) | exact absurd rfl (t _) | skip
  all_goals
    have h := Option.some.inj h
    simp only [b1v, items, h, boolsD_map, Option.map_some, e], k⟩
theorem So_tuple {x : D} {ds : List D} (h : Its x ds) (k : K (.tup ds)) : So (b1v .tuple x) K := ⟨_, by show (items x).map D.tup = _; rw [show items x = _ from h]; rfl, k⟩
theorem So_list {x : D} {ds : List D} (h : Its x ds) (k : K (.own ds)) : So (b1v .list x) K := ⟨_, by show (items x).map D.own = _; rw [show items x = _ from h]; rfl, k⟩
/-- lists joined -/
def Lst (x : D) (ds : List D) : Prop := lsts x = some ds
theorem lst_lst {ds : List D} : Lst (.lst ds) ds := rfl
theorem lst_own {ds : List D} : Lst (.own ds) ds := rfl
theorem So_addL {x y : D} {xs ys : List D} (h1 : Lst x xs) (h2 : Lst y ys) (hz : xs.length + ys.length ≤ szl) (k : K (.own (xs ++ ys))) : So (binv .add x y) K := ⟨_, by
  cases x <;> first | (cases h1; done) | skip
  all_goals
    cases y <;> first | (cases h2; done) | skip
    all_goals
      cases h1; cases h2
      exact if_pos hz, k⟩
theorem So_addT {xs ys : List D} (hz : xs.length + ys.length ≤ szl) (k : K (.tup (xs ++ ys))) : So (binv .add (.tup xs) (.tup ys)) K := ⟨_, if_pos hz, k⟩
theorem So_rng1 {KL : List D → Prop} (h : 0 ≤ i ∧ i < 1000000000) (k : KL (rngI 0 i.toNat)) : So (rngv1 (.int i)) KL := ⟨_, rngv1_int h, k⟩
theorem So_rng2 {KL : List D → Prop} (h : -1000000000000 ≤ i ∧ i < 1000000000000 ∧ -1000000000000 ≤ j ∧ j < 1000000000000) (k : KL (rngI i (j - i).toNat)) : So (rngv2 (.int i) (.int j)) KL := ⟨_, by
  have h1 : -(2 ^ 62) ≤ i ∧ i < 2 ^ 62 ∧ -(2 ^ 62) ≤ j ∧ j < 2 ^ 62 := ⟨by omega, by omega, by omega, by omega⟩
  simp only [rngv2]
  rw [if_pos h1], k⟩
theorem So_part {KO : Option Int → Prop} (k : KO (some i)) : So (partOf (.int i)) KO := ⟨_, rfl, k⟩
theorem So_revT {xs : List D} (k : K (.tup xs.reverse)) : So (p1v .rev (.tup xs)) K := ⟨_, rfl, k⟩
theorem So_revL {x : D} {xs : List D} (h : Lst x xs) (k : K (.own xs.reverse)) : So (p1v .rev x) K := ⟨_, by
  cases x <;> first | (cases h; done) | (cases h; rfl), k⟩
theorem So_sset {x : D} {l : List Int} (t : notT x) (h : Its x (l.map .int)) (hl : l.length < 64) (k : K (.own ((sortI (dedI l)).map .int))) : So (p1v .sset x) K := ⟨.own ((sortI (dedI l)).map .int), by
  cases x <;> first | (cases h; done) | exact absurd rfl (t _) | skip
  all_goals
    have h := Option.some.inj h
    simp only [p1v, items, h, intsD_map, hl, if_true], k⟩
theorem So_lrng1 (h : i < 1000000 ∧ -1000000 < i) (k : K (.own (rngI 0 i.toNat))) : So (p1v .lrng (.int i)) K := ⟨_, if_pos h, k⟩
theorem So_trng1 (h : i < 1000000 ∧ -1000000 < i) (k : K (.tup (rngI 0 i.toNat))) : So (p1v .trng (.int i)) K := ⟨_, if_pos h, k⟩
theorem So_lrng2 (h : j < 1000000 ∧ -1000000 < j ∧ i < 1000000 ∧ -1000000 < i) (k : K (.own (rngI i (j - i).toNat))) : So (p2v .lrng (.int i) (.int j)) K := ⟨_, if_pos h, k⟩
theorem So_trng2 (h : j < 1000000 ∧ -1000000 < j ∧ i < 1000000 ∧ -1000000 < i) (k : K (.tup (rngI i (j - i).toNat))) : So (p2v .trng (.int i) (.int j)) K := ⟨_, if_pos h, k⟩
theorem pairsD_map : ∀ l : List (Int × Int), pairsD (l.map pairD) = some l
  | [] => rfl
  | p :: l => by
    rw [List.map_cons, show pairD p = .tup [.int p.1, .int p.2] from rfl, pairsD, pairsD_map l]
    rfl
theorem So_sortedP {x : D} {l : List (Int × Int)} (t : notT x) (h : Its x (l.map pairD)) (k : K (.own ((sortP l).map pairD))) : So (b1v .sorted x) K := ⟨.own ((sortP l).map pairD), by
  have e : (match intsD (l.map pairD) with | some l => some (D.own ((sortI l).map .int)) | none => (match pairsD (l.map pairD) with | some l => some (.own ((sortP l).map pairD)) | none => none)) = some (.own ((sortP l).map pairD)) := by
    cases l with
    | nil => rfl
    | cons p l => rw [pairsD_map]; rfl
  cases x <;> first | (cases h; done) | exact absurd rfl (t _) | skip
  all_goals
    have h := Option.some.inj h
    simp only [b1v, items, h]
    exact e, k⟩
theorem So_mulT {xs : List D} (h : 2 ≤ j ∧ j ≤ 1000 ∧ xs.length ≤ 1000 ∧ xs.isEmpty = false) (k : K (.tup (List.replicate j.toNat xs).flatten)) : So (binv .mul (.tup xs) (.int j)) K := ⟨_, if_pos h, k⟩
theorem lsts_mulv {x : D} {xs : List D} (h : Lst x xs) (hj : j < 2 ^ 62 ∧ -(2 ^ 62) < j ∧ xs.length * j.toNat ≤ szl) : mulv x (.int j) = some (.own (List.replicate j.toNat xs).flatten) := by
  cases x <;> first | (cases h; done) | (cases h; exact if_pos hj)
theorem So_mulL {x : D} {xs : List D} (h : Lst x xs) (hj : j < 2 ^ 62 ∧ -(2 ^ 62) < j ∧ xs.length * j.toNat ≤ szl) (k : K (.own (List.replicate j.toNat xs).flatten)) : So (binv .mul x (.int j)) K := ⟨_, lsts_mulv h hj, k⟩
/-! lists of ints compared -/
theorem pds_ints : ∀ l : List Int, pds (l.map D.int) = some (l.map PyData.int)
  | [] => by simp only [List.map_nil, pds]
  | i :: l => by simp only [List.map_cons, pds, pd, pds_ints l]
theorem canAll_ints : ∀ l : List Int, PyData.canLayAll0 (l.map PyData.int) = true
  | [] => by rw [List.map_nil, PyData.canLayAll0]
  | i :: l => by rw [List.map_cons, PyData.canLayAll0, PyData.canLay0, canAll_ints l]; rfl
theorem dpAll_ints : ∀ l : List Int, PyData.depthAll (l.map PyData.int) = 0
  | [] => by rw [List.map_nil, PyData.depthAll]
  | i :: l => by rw [List.map_cons, PyData.depthAll, PyData.depth, dpAll_ints l]; rfl
theorem eqv_ints : ∀ l m : List Int, PyData.eqvAll (l.map PyData.int) (m.map PyData.int) = decide (l = m)
  | [], [] => by simp [PyData.eqvAll]
  | [], j :: m => by simp [PyData.eqvAll]
  | i :: l, [] => by simp [PyData.eqvAll]
  | i :: l, j :: m => by
    rw [List.map_cons, List.map_cons, PyData.eqvAll, eqv_ints l m, PyData.eqv]
    by_cases h : i = j
    · subst h; simp
    · simp [h]
theorem pd_lst {x : D} {l : List Int} (h : Lst x (l.map .int)) : pd x = some (.list (l.map PyData.int)) := by
  cases x <;> first | (cases h; done) | skip
  all_goals
    have h := Option.some.inj h
    subst h
    simp only [pd, pds_ints, Option.map_some]
theorem deq_ints {x y : D} {l m : List Int} (h1 : Lst x (l.map .int)) (h2 : Lst y (m.map .int)) : deq x y = some (decide (l = m)) := by
  have sh : ∀ l : List Int, SeqAt.shaped (.list (l.map PyData.int)) = true := fun l => by
    unfold SeqAt.shaped
    rw [PyData.canLay0, canAll_ints, PyData.depth, dpAll_ints]
    rfl
  unfold deq
  simp only [pd_lst h1, pd_lst h2, sh, Bool.and_self, if_true]
  rw [PyData.eqv, eqv_ints]
theorem So_eqIs {x y : D} {l m : List Int} (h1 : Lst x (l.map .int)) (h2 : Lst y (m.map .int)) (k : KB (decide (l = m))) : So (cmpv .eq x y) KB := ⟨_, deq_ints h1 h2, k⟩
theorem So_neIs {x y : D} {l m : List Int} (h1 : Lst x (l.map .int)) (h2 : Lst y (m.map .int)) (k : KB (!decide (l = m))) : So (cmpv .ne x y) KB := ⟨_, by show (deq x y).map (!·) = _; rw [deq_ints h1 h2]; rfl, k⟩
/-- tuples of ints -/
theorem deq_tints {l m : List Int} : deq (.tup (l.map .int)) (.tup (m.map .int)) = some (decide (l = m)) := by
  have sh : ∀ l : List Int, SeqAt.shaped (.tuple (l.map PyData.int)) = true := fun l => by
    unfold SeqAt.shaped
    rw [PyData.canLay0, canAll_ints, PyData.depth, dpAll_ints]
    rfl
  unfold deq
  simp only [pd, pds_ints, Option.map_some, sh, Bool.and_self, if_true]
  rw [PyData.eqv, eqv_ints]
theorem So_eqTs {l m : List Int} (k : KB (decide (l = m))) : So (cmpv .eq (.tup (l.map .int)) (.tup (m.map .int))) KB := ⟨_, deq_tints, k⟩
theorem So_neTs {l m : List Int} (k : KB (!decide (l = m))) : So (cmpv .ne (.tup (l.map .int)) (.tup (m.map .int))) KB := ⟨_, by show (deq _ _).map (!·) = _; rw [deq_tints]; rfl, k⟩
/-! in -/
theorem So_in {x : D} {l : List Int} (h : Its x (l.map .int)) (k : KB (decide (i ∈ l))) : So (cmpv .isin (.int i) x) KB := ⟨_, by
  show inv (.int i) x = _
  unfold inv
  rw [show items x = _ from h]
  have e1 : (l.map D.int).all flat = true := by simp [flat]
  have e2 : ((l.map D.int).any fun z => feq z (.int i)) = decide (i ∈ l) := by
    rw [List.any_map]
    have : ((fun z => feq z (.int i)) ∘ D.int) = fun a => a == i := rfl
    rw [this]
    by_cases h : i ∈ l
    · rw [decide_eq_true h]; exact List.any_eq_true.mpr ⟨i, h, by simp⟩
    · rw [decide_eq_false h]
      refine List.any_eq_false.mpr fun a ha => ?_
      intro hq
      exact h (by rw [← eq_of_beq hq]; exact ha)
  simp only [flat, e1, e2, Bool.and_self, if_true], k⟩
theorem So_nin {x : D} {l : List Int} (h : Its x (l.map .int)) (k : KB (!decide (i ∈ l))) : So (cmpv .notin (.int i) x) KB := by
  obtain ⟨b, h1, h2⟩ := So_in (KB := fun b => b = decide (i ∈ l)) h rfl
  subst h2
  exact ⟨_, by show (inv (.int i) x).map (!·) = _; rw [show inv (.int i) x = _ from h1]; rfl, k⟩
end
theorem Wif_nt {A B : Prop} (b : B) : Wif (!true) A B := ⟨nofun, fun _ => b⟩
theorem Wif_nf {A B : Prop} (a : A) : Wif (!false) A B := ⟨fun _ => a, nofun⟩
theorem Wif_n {b : Bool} {A B : Prop} (h : Wif b B A) : Wif (!b) A B := by
  cases b with
  | true => exact Wif_nt (h.1 rfl)
  | false => exact Wif_nf (h.2 rfl)
/-- the numbers of a range -/
def rngL (lo : Int) (n : Nat) : List Int := (List.range n).map fun (k : Nat) => lo + (k : Int)
theorem rngI_eq {lo : Int} {n : Nat} : rngI lo n = (rngL lo n).map D.int := by
  unfold rngI rngL; rw [List.map_map]; rfl
theorem rngL_len {lo : Int} {n : Nat} : (rngL lo n).length = n := by simp [rngL]
theorem rngL_mem {lo i : Int} {n : Nat} : i ∈ rngL lo n ↔ lo ≤ i ∧ i < lo + n := by
  unfold rngL
  rw [List.mem_map]
  constructor
  · rintro ⟨k, hk, rfl⟩
    have := List.mem_range.mp hk
    omega
  · rintro ⟨h1, h2⟩
    exact ⟨(i - lo).toNat, List.mem_range.mpr (by omega), by omega⟩
theorem rngL_get {lo : Int} {n j : Nat} (h : j < (rngL lo n).length) : (rngL lo n)[j] = lo + j := by simp [rngL]
theorem rngL_succ {lo : Int} {n : Nat} : rngL lo (n + 1) = rngL lo n ++ [lo + n] := by
  unfold rngL; rw [List.range_succ, List.map_append]; rfl
theorem rngL_cons {lo : Int} {n : Nat} : rngL lo (n + 1) = lo :: rngL (lo + 1) n := by
  unfold rngL
  rw [List.range_succ_eq_map, List.map_cons, List.map_map]
  congr 1
  · simp
  · refine List.map_congr_left fun k _ => ?_
    simp only [Function.comp]
    omega
theorem rngL_zero {lo : Int} : rngL lo 0 = [] := rfl
section
variable {T : Tab} {cl : Cl} {env : Env} {c : C} {Q : D → C → Prop}
theorem WLc_rng {elt : E} {tg : Tg} {cond : List E} {own : List Nat} {lo : Int} {n : Nat} {w : Env} {e2 : Int → Env} (p : Int → Bool) (f : Int → D) (ho : own.all (noOwn env) = true) (hw : WP env own w) (hz : n ≤ szl)
    (ht : ∀ a, TG tg (.int a) w (e2 a)) (hp : ∀ a, lo ≤ a → a < lo + n → Wcd T cl cond (e2 a) c fun k c1 => k = p a ∧ c1 = c) (hf : ∀ a, lo ≤ a → a < lo + n → p a = true → We T cl elt (e2 a) c fun y c1 => Nm y (f a) ∧ c1 = c)
    (q : Q (.own (((rngL lo n).filter p).map f)) c) : WLc T cl elt tg cond own (rngI lo n) env c Q := by
  rw [rngI_eq]
  exact WLc_map p f ho hw (by rw [rngL_len]; exact hz) (fun a _ => ht a) (fun a m => hp a (rngL_mem.mp m).1 (rngL_mem.mp m).2) (fun a m => hf a (rngL_mem.mp m).1 (rngL_mem.mp m).2) q
theorem WLc_rng0 {elt : E} {tg : Tg} {own : List Nat} {lo : Int} {n : Nat} {w : Env} {e2 : Int → Env} (f : Int → D) (ho : own.all (noOwn env) = true) (hw : WP env own w) (hz : n ≤ szl)
    (ht : ∀ a, TG tg (.int a) w (e2 a)) (hf : ∀ a, lo ≤ a → a < lo + n → We T cl elt (e2 a) c fun y c1 => Nm y (f a) ∧ c1 = c)
    (q : Q (.own ((rngL lo n).map f)) c) : WLc T cl elt tg [] own (rngI lo n) env c Q := by
  rw [rngI_eq]
  exact WLc_map0 f ho hw (by rw [rngL_len]; exact hz) (fun a _ => ht a) (fun a m => hf a (rngL_mem.mp m).1 (rngL_mem.mp m).2) q
theorem WLc_rngD {elt : E} {tg : Tg} {own : List Nat} {lo : Int} {n : Nat} {w : Env} {e2 : Int → Env} {α : Type} (g : α → D) (P : α → Prop) (S : C → Prop) (ho : own.all (noOwn env) = true) (hw : WP env own w) (hz : n ≤ szl) (h0 : S c)
    (ht : ∀ a, TG tg (.int a) w (e2 a)) (hs : ∀ i c, lo ≤ i → i < lo + n → S c → We T cl elt (e2 i) c fun y c => ∃ a, Nm y (g a) ∧ P a ∧ S c)
    (hN : ∀ (A : List α) c, A.length = n → (∀ a ∈ A, P a) → S c → Q (.own (A.map g)) c) : WLc T cl elt tg [] own (rngI lo n) env c Q := by
  refine WLc_draw g P S ho hw (by rw [rngI_length]; exact hz) h0 (fun x hx c hS => ?_) (fun A c h => hN A c (by rw [h, rngI_length]))
  obtain ⟨j, hj, rfl⟩ := rngI_mem hx
  exact ⟨_, ht _, hs _ c (by omega) (by omega) hS⟩
end
theorem norm_int (a : Int) : norm (.int a) = .int a := rfl
theorem So_strS {K : D → Prop} {x : Str} (k : K (.str x)) : So (b1v .str (.str x)) K := ⟨_, rfl, k⟩
theorem cut_non {α : Type} (xs : List α) : cut xs none none = xs := by simp [cut, HT.sIx]
theorem cut_from {α : Type} (xs : List α) {i : Int} (h : 0 ≤ i) : cut xs (some i) none = xs.drop i.toNat := by
  simp only [cut, HT.sIx]
  rw [if_neg (by omega)]
  by_cases z : i.toNat ≤ xs.length
  · rw [Nat.min_eq_left z, List.take_of_length_le (by rw [List.length_drop]; omega)]
  · rw [Nat.min_eq_right (by omega), Nat.sub_self, List.take_zero, List.drop_eq_nil_of_le (by omega)]
theorem cut_to {α : Type} (xs : List α) {i : Int} (h : 0 ≤ i) : cut xs none (some i) = xs.take i.toNat := by
  simp only [cut, HT.sIx]
  rw [if_neg (by omega), List.drop_zero, Nat.sub_zero]
  by_cases z : i.toNat ≤ xs.length
  · rw [Nat.min_eq_left z]
  · rw [Nat.min_eq_right (by omega), List.take_of_length_le (by omega), List.take_of_length_le (by omega)]
theorem So_slT {K : D → Prop} {xs ys : List D} {lo hi : Option Int} (h : cut xs lo hi = ys) (k : K (.tup ys)) : So (slv (.tup xs) lo hi) K := ⟨_, by show some (D.tup (cut xs lo hi)) = _; rw [h], k⟩
theorem So_slL {K : D → Prop} {x : D} {xs ys : List D} {lo hi : Option Int} (h1 : Lst x xs) (h : cut xs lo hi = ys) (k : K (.own ys)) : So (slv x lo hi) K := ⟨_, by
  cases x <;> first | (cases h1; done) | skip
  all_goals
    have h1 := Option.some.inj h1
    subst h1
    show some (D.own (cut _ lo hi)) = _
    rw [h], k⟩
theorem So_zip {α β : Type} {KL : List D → Prop} {x y : D} {A : List α} {B : List β} {f : α → D} {g : β → D} (t : isTup x = isTup y) (h1 : Its x (A.map f)) (h2 : Its y (B.map g)) (n1 : ∀ a, norm (f a) = f a) (n2 : ∀ b, norm (g b) = g b) (k : KL ((A.zip B).map fun z => .tup [f z.1, g z.2])) : So (zipv x y) KL := ⟨_, by
  unfold zipv
  rw [show items x = _ from h1]
  simp only
  rw [show items y = _ from h2]
  simp only
  rw [if_pos (by rw [t]; simp)]
  congr 1
  induction A generalizing B with
  | nil => rfl
  | cons a A ih => cases B with
    | nil => rfl
    | cons b B =>
      simp only [List.map_cons, List.zipWith_cons_cons, List.zip_cons_cons, n1, n2]
      congr 1
      have := ih (B := B)
      clear k h1 h2
      have key : ∀ (A : List α) (B : List β), List.zipWith (fun p q => D.tup [norm p, norm q]) (A.map f) (B.map g) = (A.zip B).map fun z => .tup [f z.1, g z.2] := by
        intro A
        induction A with
        | nil => intro B; rfl
        | cons a A ih2 => intro B; cases B with
          | nil => rfl
          | cons b B => simp only [List.map_cons, List.zipWith_cons_cons, List.zip_cons_cons, n1, n2, ih2]
      exact key A B, k⟩
theorem So_enum {α : Type} {KL : List D → Prop} {x : D} {A : List α} {f : α → D} (t : isTup x = false) (h1 : Its x (A.map f)) (n1 : ∀ a, norm (f a) = f a) (k : KL (((rngL 0 A.length).zip A).map fun z => .tup [.int z.1, f z.2])) : So (enumv x) KL := ⟨_, by
  unfold enumv
  rw [show items x = _ from h1]
  simp only [t, Bool.false_eq_true, if_false, List.length_map]
  rw [rngI_eq]
  congr 1
  have key : ∀ (R : List Int) (A : List α), List.zipWith (fun p q => D.tup [p, norm q]) (R.map D.int) (A.map f) = (R.zip A).map fun z => .tup [.int z.1, f z.2] := by
    intro R
    induction R with
    | nil => intro B; rfl
    | cons a A ih2 => intro B; cases B with
      | nil => rfl
      | cons b B => simp only [List.map_cons, List.zipWith_cons_cons, List.zip_cons_cons, n1, ih2]
  exact key _ _, k⟩
theorem zip_self {α β : Type} (g : α → β) : ∀ l : List α, l.zip (l.map g) = l.map fun a => (a, g a)
  | [] => rfl
  | a :: l => by rw [List.map_cons, List.zip_cons_cons, zip_self g l, List.map_cons]
def NO (o : Option D) : Prop := ∀ ds, o ≠ some (.own ds)
theorem NO.none : NO none := nofun
theorem NO.int {i : Int} : NO (some (.int i)) := nofun
theorem noOwn_at {env : Env} {i : Nat} {o : Option D} (h : env[i]? = some o) (n : NO o) : noOwn env i = true := by
  unfold noOwn
  rw [h]
  cases o with
  | none => rfl
  | some d => cases d <;> first | rfl | exact absurd rfl (n _)
theorem map_intc {α : Type} (f : α → Int) (l : List α) : l.map (fun a => D.int (f a)) = (l.map f).map D.int := by simp [List.map_map, Function.comp_def]
/-- the cup is made -/
def cupS (c : C) : Prop := ∃ p q, c = some (p, q)
theorem cupS.mk {p q : Int} : cupS (some (p, q)) := ⟨p, q, rfl⟩
end PX
namespace PX
open PySem
theorem evSs_app {T : Tab} {cl : Cl} : ∀ (a b : List PX.S) {env e2 : PX.Env} {c c2 : C}, evSs T cl a env c = .ok .nx e2 c2 → evSs T cl (a ++ b) env c = evSs T cl b e2 c2
  | [], b, env, e2, c, c2, h => by
    simp only [evSs] at h
    cases h
    rfl
  | s :: a, b, env, e2, c, c2, h => by
    simp only [List.cons_append, evSs] at h ⊢
    generalize evS T cl s env c = r at h ⊢
    cases r with
    | no => cases h
    | ex x c => cases h
    | ok f e c => cases f with
      | nx => exact evSs_app a b h
      | bk => cases h
      | ct => cases h
      | rt d => cases h
/-- a part known by a look of the kernel -/
theorem WSs_part {T : Tab} {cl : Cl} {b : List PX.S} (n : Nat) {env e2 : Env} {c c2 : C} {N : Env → C → Prop} {R : D → C → Prop} {B K : Env → C → Prop} (h : evSs T cl (b.take n) env c = .ok .nx e2 c2) (k : WSs T cl (b.drop n) e2 c2 N R B K) : WSs T cl b env c N R B K := by
  obtain ⟨f, e3, c3, h1, h2⟩ := k
  refine ⟨f, e3, c3, ?_, h2⟩
  rw [← List.take_append_drop n b, evSs_app _ _ h]
  exact h1
/-- the law, by its two parts -/
theorem law_of {T : Tab} {m icup : Nat} {f : Fn} {first : PX.S} {rest : List PX.S} {ns : List Int} {e0 : Env} (he : En [.scr ns] f.ns e0)
    (h : WS T (run T m) first e0 none (fun e c => c = none ∧ ∃ p q e2, e[icup]? = some (some (.own [.int p, .int q])) ∧ SetE e icup (some .cup) e2 ∧ WSs T (run T m) rest e2 (some (p, q)) (fun _ _ => False) (fun d _ => d = .bl true) (fun _ _ => False) (fun _ _ => False)) (fun _ _ => False) (fun _ _ => False) (fun _ _ => False)) :
    ∃ (e : Env) (p q : Int) (e' : Env) (c' : C), evS T (run T m) first (entry f [.scr ns]) none = .ok .nx e none ∧ e[icup]? = some (some (.own [.int p, .int q])) ∧ evSs T (run T m) rest (e.set icup (some .cup)) (some (p, q)) = .ok (.rt (.bl true)) e' c' := by
  obtain ⟨g, e1, c1, h1, h2⟩ := h
  rw [← he.2] at h1
  cases g <;> try exact absurd h2 id
  obtain ⟨rfl, p, q, e2, h3, h4, g, e5, c5, h5, h6⟩ := h2
  cases g <;> try exact absurd h6 id
  cases h6
  exact ⟨e1, p, q, e5, c5, h1, h3, by rw [show e1.set icup (some .cup) = e2 from h4]; exact h5⟩
end PX

/-! # PX: calls that raise, told backwards -/
namespace PX
open PySem
section
variable (T : Tab) (cl : Cl)
def Xe (e : E) (env : Env) (c : C) (P : Xn → C → Prop) : Prop := ∃ x c', ev T cl e env c = .ex x c' ∧ P x c'
def Xs (b : List S) (env : Env) (c : C) (P : Xn → C → Prop) : Prop := ∃ x c', evSs T cl b env c = .ex x c' ∧ P x c'
end
def Xc (cl : Cl) (j : Nat) (ds : List D) (c : C) (P : Xn → C → Prop) : Prop := ∃ x c', cl j ds c = .ex x c' ∧ P x c'
section
variable {T : Tab} {cl : Cl} {env e1 : Env} {c : C} {a t e : E} {es : List E} {Q : D → C → Prop} {P : Xn → C → Prop} {b r p q : List S} {s : S} {j k : Nat}
theorem Xe_call (h : Wes T cl es env c fun ds c => ∃ d2, Nms ds d2 ∧ Xc cl j d2 c P) : Xe T cl (.call j es) env c P := by
  obtain ⟨ds, c1, h1, d2, h2, x, c2, h3, q⟩ := h
  exact ⟨x, c2, by simp only [ev, h1, R.bind, show ds.map norm = d2 from h2, h3], q⟩
theorem Xe_callv {i : Nat} (hj : env[i]? = some (some (.fn j))) (h : Wes T cl es env c fun ds c => ∃ d2, Nms ds d2 ∧ Xc cl j d2 c P) : Xe T cl (.callv i es) env c P := by
  obtain ⟨ds, c1, h1, d2, h2, x, c2, h3, q⟩ := h
  exact ⟨x, c2, by simp only [ev, hj, h1, R.bind, show ds.map norm = d2 from h2, h3], q⟩
theorem Xs_ok (h : WS T cl s env c (fun e c => Xs T cl r e c P) (fun _ _ => False) (fun _ _ => False) (fun _ _ => False)) : Xs T cl (s :: r) env c P := by
  obtain ⟨f, e2, c2, h1, h2⟩ := h
  cases f <;> try exact absurd h2 id
  obtain ⟨x, c3, h3, q⟩ := h2
  exact ⟨x, c3, by rw [evSs, h1]; exact h3, q⟩
theorem Xs_ex (h : Xe T cl e env c P) : Xs T cl (.ex e :: r) env c P := by
  obtain ⟨x, c1, h1, q⟩ := h
  exact ⟨x, c1, by simp only [evSs, evS, h1]; rfl, q⟩
theorem Xs_asg {i : Nat} (h : Xe T cl e env c P) : Xs T cl (.asg i e :: r) env c P := by
  obtain ⟨x, c1, h1, q⟩ := h
  exact ⟨x, c1, by simp only [evSs, evS, h1]; rfl, q⟩
theorem Xs_rs {n : Nat} (h : P ⟨n, []⟩ c) : Xs T cl (.rs n :: r) env c P := ⟨_, _, by simp only [evSs, evS]; rfl, h⟩
theorem Xs_rse {n : Nat} (h : We T cl e env c fun _ c => P ⟨n, []⟩ c) : Xs T cl (.rse n e :: r) env c P := by
  obtain ⟨d, c1, h1, q⟩ := h
  exact ⟨_, _, by simp only [evSs, evS, h1]; rfl, q⟩
theorem Xs_ifT (h : Wt T cl t env c fun b c => b = true ∧ Xs T cl p env c P) : Xs T cl (.ife t p q :: r) env c P := by
  obtain ⟨b, c1, h1, rfl, x, c2, h2, y⟩ := h
  exact ⟨x, c2, by simp only [evSs, evS, h1, RS.ofs, if_true, h2]; rfl, y⟩
theorem Xs_ifF (h : Wt T cl t env c fun b c => b = false ∧ Xs T cl q env c P) : Xs T cl (.ife t p q :: r) env c P := by
  obtain ⟨b, c1, h1, rfl, x, c2, h2, y⟩ := h
  exact ⟨x, c2, by simp only [evSs, evS, h1, RS.ofs, if_false, Bool.false_eq_true, h2]; rfl, y⟩
theorem Xc_en {f : Fn} {ds : List D} {e0 : Env} (hk : 0 < k) (hf : T.funs[j]? = some f) (hl : ds.length = f.np) (he : En ds f.ns e0) (h : ∀ k', k = k' + 1 → Xs T (run T k') f.body e0 c P) : Xc (run T k) j ds c P := by
  obtain ⟨k', rfl⟩ : ∃ k', k = k' + 1 := ⟨k - 1, by omega⟩
  obtain ⟨x, c1, h1, q⟩ := h k' rfl
  rw [← he.2] at h1
  refine ⟨x, c1, ?_, q⟩
  show callBy T (run T k') j ds c = _
  unfold callBy
  rw [hf]
  show (if ds.length = f.np then (evSs T (run T k') f.body (entry f ds) c).out else .no) = _
  rw [if_pos hl]
  show (evSs T (run T k') f.body (ds.map some ++ List.replicate (f.ns - ds.length) none) c).out = _
  rw [h1]
  rfl
/-- the slots without lists -/
def OL (env e1 : Env) : Prop := ownless env = e1
theorem ol_nil : OL [] [] := rfl
theorem ol_none {env e1 : Env} (h : OL env e1) : OL (none :: env) (none :: e1) := by
  show none :: ownless env = _
  rw [show ownless env = e1 from h]
theorem ol_own {env e1 : Env} {ds : List D} (h : OL env e1) : OL (some (.own ds) :: env) (none :: e1) := by
  show none :: ownless env = _
  rw [show ownless env = e1 from h]
theorem ol_oth {env e1 : Env} {d : D} (n : nown d) (h : OL env e1) : OL (some d :: env) (some d :: e1) := by
  show _ :: ownless env = _
  rw [show ownless env = e1 from h]
  cases d <;> first | rfl | exact absurd rfl (n _)
theorem We_fltx {f : Nat} {F : Flt} {d : D} (hf : T.flts[f]? = some F) (ho : OL env e1) (h : Xe T cl a e1 c fun x c => F.bad x = some d ∧ Q d c) : We T cl (.flt f a) env c Q := by
  obtain ⟨x, c1, h1, h2, q⟩ := h
  exact ⟨d, c1, by simp only [ev, hf, show ownless env = e1 from ho, h1, h2, lift], q⟩
theorem We_flto {f : Nat} {F : Flt} (hf : T.flts[f]? = some F) (ho : OL env e1) (h : We T cl a e1 c fun _ c => Q F.good c) : We T cl (.flt f a) env c Q := by
  obtain ⟨x, c1, h1, q⟩ := h
  exact ⟨_, c1, by simp only [ev, hf, show ownless env = e1 from ho, h1], q⟩
end
end PX

namespace PXk20
open PySem PX
/-! ### the program as a tree -/
abbrev prog : Program := PySem.Challenge.pw_coinmaster_k20_whole_periods_to_a_goal
def top (i : Nat) : Stmt := prog.main.body.getD i (.Pass ⟨0, 0, 0, 0⟩)
/-- is_whole -/
def f0 : Fn := ⟨1, 1, [.ret (.and [.isi (.v 0) .int, .not (.isi (.v 0) .bool)])]⟩
/-- fits_whole -/
def f1 : Fn := ⟨3, 3, [.ret (.and [.call 0 [.v 0], .chain .le .le (.v 1) (.v 0) (.v 2)])]⟩
/-- is_tuple_of -/
def f2 : Fn := ⟨3, 3, [.ret (.and [.isi (.v 0) .tuple, .chain .le .le (.v 1) (.b1 .len (.v 0)) (.v 2)])]⟩
/-- fits_plan -/
def f3 : Fn := ⟨1, 2, [.ife (.or [.not (.call 2 [.v 0, .int 4, .int 4]), .not (.b1 .all (.lc (.call 1 [.v 1, .int 0, .gl 0]) (.n 1) (.itr (.sl (.v 0) .nop (.itr (.int 2)))) [] [1]))]) [.ret (.bl false)] [], .ret (.and [.call 1 [.ix (.v 0) (.int 3), .int 1, .gl 2], .call 1 [.ix (.v 0) (.int 2), .int 0, .ix (.v 0) (.int 3)]])]⟩
/-- need_plan -/
def f4 : Fn := ⟨1, 1, [.ife (.not (.call 3 [.v 0])) [.rs 1] []]⟩
/-- need_number -/
def f5 : Fn := ⟨3, 3, [.ife (.not (.call 1 [.v 0, .v 1, .v 2])) [.rse 2 (.bin .add (.bin .add (.bin .add (.str "not from ") (.b1 .str (.v 1))) (.str " to ")) (.b1 .str (.v 2)))] []]⟩
/-- power_of -/
def f6 : Fn := ⟨2, 3, [.asg 2 (.int 1), .wh (.cmp .gt (.v 1) (.int 0)) [.par [2, 0, 1] [.ife (.cmp .eq (.bin .mod (.v 1) (.int 2)) (.int 1)) (.bin .mul (.v 2) (.v 0)) (.v 2), .bin .mul (.v 0) (.v 0), .bin .fdiv (.v 1) (.int 2)]], .ret (.v 2)]⟩
/-- parts_in -/
def f7 : Fn := ⟨2, 6, [.par [2, 3] [.ix (.v 0) (.int 2), .ix (.v 0) (.int 3)], .par [4, 5] [.call 6 [.bin .add (.v 3) (.v 2), .v 1], .call 6 [.v 3, .v 1]], .ife (.cmp .eq (.v 2) (.int 0)) [.ret (.tup [.v 4, .bin .mul (.v 1) (.v 5), .v 5])] [], .ret (.tup [.v 4, .bin .fdiv (.bin .mul (.bin .sub (.v 4) (.v 5)) (.v 3)) (.v 2), .v 5])]⟩
/-- held_in -/
def f8 : Fn := ⟨2, 5, [.tas (.t [.n 2, .n 3, .n 4]) (.call 7 [.v 0, .v 1]), .ret (.tup [.bin .add (.bin .mul (.ix (.v 0) (.int 0)) (.v 2)) (.bin .mul (.ix (.v 0) (.int 1)) (.v 3)), .v 4])]⟩
/-- reaches -/
def f9 : Fn := ⟨3, 5, [.tas (.t [.n 3, .n 4]) (.call 8 [.v 0, .v 2]), .ret (.cmp .ge (.v 3) (.bin .mul (.v 1) (.v 4)))]⟩
/-- first_reach -/
def f10 : Fn := ⟨2, 5, [.ife (.not (.call 9 [.v 0, .v 1, .gl 3])) [.ret (.non)] [], .par [2, 3] [.int 0, .gl 3], .wh (.cmp .lt (.v 2) (.v 3)) [.asg 4 (.bin .fdiv (.bin .add (.v 2) (.v 3)) (.int 2)), .tas (.t [.n 2, .n 3]) (.ife (.call 9 [.v 0, .v 1, .v 4]) (.tup [.v 2, .v 4]) (.tup [.bin .add (.v 4) (.int 1), .v 3]))], .ret (.v 2)]⟩
/-- periods_to -/
def f11 : Fn := ⟨2, 2, [.ex (.call 4 [.v 0]), .ex (.call 5 [.v 1, .int 1, .gl 1]), .ret (.call 10 [.v 0, .v 1])]⟩
/-- times_to -/
def f12 : Fn := ⟨3, 4, [.ex (.call 4 [.v 0]), .ex (.call 5 [.v 2, .int 1, .gl 3]), .ex (.call 5 [.v 1, .v 2, .gl 3]), .asg 3 (.tup [.v 2, .int 0, .ix (.v 0) (.int 2), .ix (.v 0) (.int 3)]), .ret (.call 10 [.v 3, .v 1])]⟩
/-- _law_cup -/
def f13 : Fn := ⟨1, 2, [.asg 1 (.b1 .abs (.ix (.bin .add (.b1 .list (.v 0)) (.lst [.int 0])) (.int 0))), .ret (.lst [.ife (.cmp .ge (.v 1) (.bin .pow (.int 10) (.int 18))) (.bin .fdiv (.v 1) (.int 4181)) (.int 0), .bin .add (.bin .mod (.b1 .int (.bin .add (.bin .mul (.v 1) (.int 5043)) (.int 12127))) (.int 2087624249)) (.int 4593)])]⟩
/-- _law_roll -/
def f14 : Fn := ⟨2, 4, [.ife (.cmp .gt (.ix (.v 0) (.int 0)) (.int 0)) [.asg 2 (.bin .mod (.b1 .int (.ix (.v 0) (.int 0))) (.v 1)), .put 0 (.int 0) (.bin .fdiv (.ix (.v 0) (.int 0)) (.v 1)), .ret (.v 2)] [], .put 0 (.int 1) (.bin .mod (.b1 .int (.bin .add (.bin .mul (.ix (.v 0) (.int 1)) (.int 37797)) (.int 13127))) (.int 2147483579)), .asg 3 (.bin .mod (.b1 .int (.bin .mul (.ix (.v 0) (.int 1)) (.bin .add (.ix (.v 0) (.int 1)) (.int 4449)))) (.int 2147483269)), .ret (.bin .mod (.b1 .int (.bin .fdiv (.v 3) (.int 4943))) (.v 1))]⟩
/-- _law_some -/
def f15 : Fn := ⟨2, 2, [.ret (.ix (.v 1) (.call 14 [.v 0, .b1 .len (.v 1)]))]⟩
/-- _law_same -/
def f16 : Fn := ⟨2, 3, [.ife (.isi (.v 1) .tuple) [.ife (.or [.not (.isi (.v 0) .tuple), .cmp .ne (.b1 .len (.v 0)) (.b1 .len (.v 1))]) [.ret (.bl false)] [], .ret (.b1 .all (.lc (.call 16 [.ix (.v 0) (.v 2), .ix (.v 1) (.v 2)]) (.n 2) (.rng1 (.b1 .len (.v 1))) [] [2]))] [], .ife (.cmp .is (.v 1) (.non)) [.ret (.cmp .is (.v 0) (.non))] [], .ife (.isi (.v 1) .bool) [.ret (.ife (.v 1) (.cmp .is (.v 0) (.bl true)) (.cmp .is (.v 0) (.bl false)))] [], .ife (.isi (.v 1) .int) [.ret (.and [.isi (.v 0) .int, .not (.isi (.v 0) .bool), .cmp .eq (.b1 .int (.v 0)) (.v 1)])] [], .ret (.and [.isi (.v 0) .str, .cmp .eq (.b1 .str (.v 0)) (.v 1)])]⟩
/-- _law_plan -/
def f17 : Fn := ⟨3, 6, [.asg 3 (.bin .add (.int 1) (.call 14 [.v 0, .v 2])), .asg 4 (.lc (.call 15 [.v 0, .lst [.int 0, .int 1, .call 14 [.v 0, .bin .add (.v 1) (.int 1)]]]) (.n 5) (.rng1 (.int 2)) [] [5]), .ret (.tup [.ix (.vb 4) (.int 0), .ix (.vb 4) (.int 1), .call 15 [.v 0, .lst [.int 0, .v 3, .call 14 [.v 0, .bin .add (.v 3) (.int 1)]]], .v 3])]⟩
/-- _law_line -/
def f18 : Fn := ⟨2, 9, [.tas (.t [.n 2, .n 3, .n 4, .n 5]) (.v 0), .parO 6 (.lst [.tup [.v 2, .int 1]]) [7] [.int 1], .fr (.n 8) (.rng1 (.v 1)) [.asg 7 (.bin .mul (.v 7) (.v 5)), .app 6 (.tup [.bin .add (.bin .mul (.ix (.ix (.vb 6) (.neg (.int 1))) (.int 0)) (.bin .add (.v 5) (.v 4))) (.bin .mul (.v 3) (.v 7)), .v 7])], .ret (.vb 6)]⟩
/-- _law_first -/
def f19 : Fn := ⟨3, 6, [.fr (.t [.n 3, .t [.n 4, .n 5]]) (.enum (.v 0)) [.ife (.cmp .ge (.bin .mul (.v 4) (.v 2)) (.bin .mul (.v 1) (.v 5))) [.ret (.v 3)] []], .ret (.non)]⟩
/-- _law_right -/
def f20 : Fn := ⟨2, 12, [.asg 2 (.call 18 [.v 1, .int 1000]), .tas (.t [.n 3, .n 4]) (.ix (.vb 2) (.call 15 [.v 0, .lst [.int 0, .int 1, .int 7, .int 1000, .call 14 [.v 0, .int 1001]]])), .asg 5 (.lst [.int 1, .int 1000000000, .bin .add (.int 1) (.call 14 [.v 0, .int 1000000]), .bin .fdiv (.v 3) (.v 4), .bin .add (.bin .fdiv (.v 3) (.v 4)) (.int 1), .neg (.bin .fdiv (.neg (.v 3)) (.v 4))]), .fr (.n 6) (.itr (.lc (.v 7) (.n 7) (.itr (.vb 5)) [.chain .le .le (.int 1) (.v 7) (.int 1000000000)] [7])) [.fz [2] (.ife (.not (.call 16 [.call 11 [.v 1, .v 6], .call 19 [.v 2, .v 6, .int 1]])) [.ret (.bl false)] [])], .asg 8 (.call 18 [.bin .add (.tup [.int 1, .int 0]) (.sl (.v 1) (.itr (.int 2)) .nop), .int 1000]), .fr (.n 9) (.rng1 (.int 3)) [.asg 10 (.call 15 [.v 0, .lst [.int 1, .int 1000, .bin .add (.int 1) (.call 14 [.v 0, .int 1000])]]), .asg 11 (.bin .add (.v 10) (.call 14 [.v 0, .bin .sub (.int 1001) (.v 10)])), .fz [8] (.ife (.not (.call 16 [.call 12 [.v 1, .v 11, .v 10], .call 19 [.v 8, .v 11, .v 10]])) [.ret (.bl false)] [])], .ret (.bl true)]⟩
def lawFirst : PX.S := .parO 1 (.call 13 [.v 0]) [2] [.tup [.int 100, .int 10, .int 1, .int 10]]
def lawRest : List PX.S := [.asg 3 (.tup [.call 11 [.v 2, .int 142], .call 11 [.v 2, .int 143], .call 11 [.tup [.int 0, .int 0, .int 1, .int 1], .int 1], .call 11 [.v 2, .int 100]]), .asg 3 (.bin .add (.v 3) (.tup [.call 11 [.v 2, .int 1], .call 11 [.tup [.int 0, .int 1, .int 0, .int 1], .int 1000], .call 11 [.tup [.int 0, .int 1, .int 0, .int 1], .int 1001]])), .ife (.not (.call 16 [.v 3, .tup [.int 2, .int 3, .non, .int 0, .int 0, .int 1000, .non]])) [.ret (.bl false)] [], .asg 3 (.tup [.call 12 [.v 2, .int 2, .int 1], .call 12 [.v 2, .int 11, .int 10], .call 12 [.tup [.int 5, .int 5, .int 0, .int 1], .int 3, .int 2]]), .asg 3 (.bin .add (.v 3) (.tup [.call 12 [.tup [.int 5, .int 5, .int 0, .int 1], .int 4, .int 4], .call 12 [.tup [.int 0, .int 0, .int 1, .int 1], .int 1000, .int 1], .call 12 [.tup [.int 0, .int 9, .int 1, .int 1000], .int 1000, .int 999]])), .ife (.not (.call 16 [.v 3, .tup [.int 8, .int 1, .non, .int 0, .int 10, .int 2]])) [.ret (.bl false)] [], .asg 3 (.tup [.call 12 [.tup [.int 0, .int 0, .int 1, .int 10000], .int 1000, .int 999], .call 12 [.tup [.int 0, .int 0, .int 1, .int 10000], .int 11, .int 10]]), .asg 3 (.bin .add (.v 3) (.tup [.call 12 [.tup [.int 0, .int 0, .int 1, .int 10000], .int 12, .int 10], .call 11 [.tup [.int 999999, .int 0, .int 1, .int 10000], .int 1000000]])), .ife (.not (.call 16 [.v 3, .tup [.int 11, .int 954, .non, .int 1]])) [.ret (.bl false)] [], .asg 4 (.lc (.flt 0 (.call 11 [.v 2, .v 5])) (.n 5) (.itr (.tup [.int 0, .int 1000000001, .non, .bl true, .int 1000000000])) [] [5]), .asg 6 (.tup [.tup [.int 1, .int 0], .tup [.int 1, .int 1001], .tup [.int 1, .int 2], .tup [.int 1001, .int 1], .tup [.non, .int 1], .tup [.bl true, .int 1], .tup [.int 1, .bl true], .tup [.int 1000, .int 1000]]), .asg 4 (.bin .add (.vb 4) (.lc (.flt 0 (.call 12 [.v 2, .v 7, .v 8])) (.t [.n 7, .n 8]) (.itr (.v 6)) [] [7, 8])), .app 4 (.flt 0 (.call 11 [.tup [.int 1, .int 1, .int 2, .int 1], .non])), .app 4 (.flt 0 (.call 12 [.tup [.int 1, .int 1, .int 2, .int 1], .non, .int 0])), .ife (.cmp .ne (.vb 4) (.bin .add (.bin .add (.bin .add (.bin .add (.bin .mul (.lst [.str "number"]) (.int 4)) (.lst [.str ""])) (.bin .mul (.lst [.str "number"]) (.int 7))) (.lst [.str ""])) (.bin .mul (.lst [.str "costs"]) (.int 2)))) [.ret (.bl false)] [], .fr (.n 9) (.rng1 (.int 8)) [.ife (.not (.call 20 [.v 1, .call 17 [.v 1, .call 15 [.v 1, .lst [.int 9, .int 1000, .int 1000000]], .call 15 [.v 1, .lst [.int 1, .int 6, .int 100, .int 10000]]]])) [.ret (.bl false)] []], .ret (.bl true)]
def lawFn : Fn := ⟨1, 10, []⟩
def funs : List Fn := [f0, f1, f2, f3, f4, f5, f6, f7, f8, f9, f10, f11, f12, f13, f14, f15, f16, f17, f18, f19, f20]
def names : Nat → List Str := fun j => match j with
  | 0 => ["value"]
  | 1 => ["value", "low", "high"]
  | 2 => ["value", "least", "most"]
  | 3 => ["value", "one"]
  | 4 => ["value"]
  | 5 => ["value", "low", "high"]
  | 6 => ["base", "many", "found"]
  | 7 => ["plan", "periods", "many", "of", "grown", "below"]
  | 8 => ["plan", "periods", "grown", "puts", "below"]
  | 9 => ["plan", "goal", "periods", "top", "below"]
  | 10 => ["plan", "goal", "low", "high", "middle"]
  | 11 => ["plan", "goal"]
  | 12 => ["plan", "top", "below", "coin"]
  | 13 => ["script", "cell"]
  | 14 => ["cup", "many", "found", "deep"]
  | 15 => ["cup", "things"]
  | 16 => ["told", "due", "at"]
  | 17 => ["cup", "most", "of", "parts", "pair", "own"]
  | 18 => ["plan", "periods", "start", "deposit", "many", "of", "found", "below", "turn"]
  | 19 => ["line", "top", "below", "at", "own", "under"]
  | 20 => ["cup", "plan", "line", "top", "below", "goals", "goal", "own", "alone", "turn", "under", "over"]
  | _ => []
def lawN : List Str := ["script", "cup", "plan", "told", "words", "odd", "rows", "top", "below", "turn"]
def fns : List Str := ["is_whole", "fits_whole", "is_tuple_of", "fits_plan", "need_plan", "need_number", "power_of", "parts_in", "held_in", "reaches", "first_reach", "periods_to", "times_to", "_law_cup", "_law_roll", "_law_some", "_law_same", "_law_plan", "_law_line", "_law_first", "_law_right"]
def cns : List Str := ["GREAT", "GOAL", "RATE", "FAR"]
def ens : List Str := ["MintError", "InvalidCosts", "InvalidNumber"]
def fls : List Str := ["_law_fault"]
def consts : List D := [.int 1000000, .int 1000000000, .int 10000, .int 1000]
def ck : Ck := ⟨[], fns, cns, [], ens, noFlq⟩

def ngT0 : List Str := ["call", "error", "kinds", "word", "good"]
def kindsT0 : List (Str × Nat) := [("costs", 1), ("number", 2)]
def isT0 : List Nat := [1, 2]
def jsT0 : List Nat := [0, 1, 2]
def kitT0 : Nat → Nat → Bool := fun j i => ([(1, 1), (2, 2)] : List (Nat × Nat)).contains (j, i)
def tblT0 : List (Nat × D) := [(0, .str ""), (1, .str "costs"), (2, .str "number")]
theorem t0T0 : (tryB (L2.defScope (top 30)) "MintError" "error" (.str "") (L2.defBody (top 30))).isSome = true := by decide +kernel
theorem t1T0 : suiteAB { ck with N := ngT0 } (L2.defScope (top 30)) "error" kindsT0 " " ((tryB (L2.defScope (top 30)) "MintError" "error" (.str "") (L2.defBody (top 30))).getD []) = true := by decide +kernel
theorem t2T0 : C8.scC ngT0 ["call"] (L2.defScope (top 30)) = true := by decide +kernel
theorem t3T0 : (visB (L2.defScope (top 30)) "call" && visB (L2.defScope (top 30)) "error" && okN "error" && tblT0.all (fun p => (scV p.2).isSome) && kindsT0.all (fun p => decide (p.2 ∈ isT0)) && decide (kindsT0.length < 1000) && decide (ngT0[0]? = some ("call" : Str)) && decide (ngT0[1]? = some ("error" : Str)) && hdB jsT0 kitT0 tblT0 kindsT0 " " && decide (tblT0.map (·.1) = jsT0)) = true := by decide +kernel
def fltL : List Flt := [simpleF (.str "") tblT0]
def tab : Tab := ⟨funs, fltL, consts, 100000⟩
def gs (K : PySem.W.Frag) (la : List Addr) (lc : List Value) (lt : List (Addr × Str)) : Gs := ⟨K, fun j => la[j]?, lt, fun j => lc[j]?, fun _ => []⟩

abbrev J_is_whole : Nat := 0
abbrev J_fits_whole : Nat := 1
abbrev J_is_tuple_of : Nat := 2
abbrev J_fits_plan : Nat := 3
abbrev J_need_plan : Nat := 4
abbrev J_need_number : Nat := 5
abbrev J_power_of : Nat := 6
abbrev J_parts_in : Nat := 7
abbrev J_held_in : Nat := 8
abbrev J_reaches : Nat := 9
abbrev J_first_reach : Nat := 10
abbrev J_periods_to : Nat := 11
abbrev J_times_to : Nat := 12
abbrev J__law_cup : Nat := 13
abbrev J__law_roll : Nat := 14
abbrev J__law_some : Nat := 15
abbrev J__law_same : Nat := 16
abbrev J__law_plan : Nat := 17
abbrev J__law_line : Nat := 18
abbrev J__law_first : Nat := 19
abbrev J__law_right : Nat := 20
end PXk20
open PySem PX
local macro_rules | `(tactic| purse 9 => fail "seti") => `(tactic| first | with_reducible exact set0 | with_reducible exact set1 | with_reducible exact set2 | with_reducible exact set3 | with_reducible exact set4 | with_reducible exact set5 | with_reducible exact set6 | with_reducible exact set7 | with_reducible exact set8 | with_reducible exact set9 | with_reducible exact set10 | (refine' setS ?h; (case h => purse 9 => fail "seti")))
local macro_rules | `(tactic| purse 9 => fail "nown") => `(tactic| first | with_reducible exact nw_int | with_reducible exact nw_cup | with_reducible exact nw_tup | with_reducible exact nw_lst | with_reducible exact nw_non | with_reducible exact nw_bl | with_reducible exact nw_str | with_reducible exact nw_scr | with_reducible exact nw_fn | with_reducible assumption | (intro _ z; cases z; done))
local macro_rules | `(tactic| purse 9 => fail "nm") => `(tactic| first | with_reducible exact nm_int | with_reducible exact nm_tup | with_reducible exact nm_bl | with_reducible exact nm_non | with_reducible exact nm_own | with_reducible exact nm_cup | with_reducible exact nm_lst | with_reducible exact nm_str | with_reducible exact nm_fn | with_reducible exact nm_scr | exact nm_n (by purse 9 => fail "nown") | exact nm_any)
local macro_rules | `(tactic| purse 9 => fail "nms") => `(tactic| first | with_reducible exact nms_nil | ((with_reducible refine' nms_cons ?h1 ?h2); (case h1 => purse 9 => fail "nm"); (case h2 => purse 9 => fail "nms")) | with_reducible exact nms_map (fun _ => rfl) | with_reducible exact nms_n (by assumption) | with_reducible exact nms_any)
local macro_rules | `(tactic| purse 9 => fail "ol") => `(tactic| first | with_reducible exact ol_nil | ((with_reducible refine' ol_none ?h); (case h => purse 9 => fail "ol")) | ((with_reducible refine' ol_own ?h); (case h => purse 9 => fail "ol")) | ((with_reducible refine' ol_oth ?n ?h); (case n => purse 9 => fail "nown"); (case h => purse 9 => fail "ol")))
local macro_rules | `(tactic| purse 9 => fail "tg") => `(tactic| first | ((with_reducible refine' tg_n ?h1 ?h2); (case h1 => purse 9 => fail "nm"); (case h2 => purse 9 => fail "seti")) | ((with_reducible refine' tg_t ?h); (case h => purse 9 => fail "tg")) | with_reducible exact tgs_nil | ((with_reducible refine' tgs_cons ?h1 ?h2); (case h1 => purse 9 => fail "tg"); (case h2 => purse 9 => fail "tg")))
local macro_rules | `(tactic| purse 9 => fail "its") => `(tactic| first | with_reducible exact its_tup | with_reducible exact its_lst | with_reducible exact its_own | with_reducible exact its_scr)
local macro_rules | `(tactic| purse 9 => fail "lst") => `(tactic| first | with_reducible exact lst_lst | with_reducible exact lst_own)
local macro_rules | `(tactic| purse 9 => fail "len") => `(tactic| first | with_reducible exact len_map | with_reducible exact len0 | with_reducible exact len1 | with_reducible exact len2 | with_reducible exact len3 | with_reducible exact len4 | with_reducible exact len5 | with_reducible exact len6 | with_reducible exact len7 | exact rfl)
local macro_rules | `(tactic| purse 9 => fail "sz") => `(tactic| first | (simp only [List.length_cons, List.length_nil, List.length_map, List.length_append, List.length_range, List.length_replicate, rngI_length, szl]; omega) | omega)
local macro_rules | `(tactic| purse 9 => fail "fz") => `(tactic| first | with_reducible exact fz_nil | (refine' fz_own ?h1 ?h2 ?h3; (case h1 => exact rfl); (case h2 => purse 9 => fail "seti"); (case h3 => purse 9 => fail "fz")) | (refine' fz_oth ?h1 ?h2 ?h3; (case h1 => exact rfl); (case h2 => purse 9 => fail "nown"); (case h3 => purse 9 => fail "fz")) | (refine' fz_none ?h1 ?h3; (case h1 => exact rfl); (case h3 => purse 9 => fail "fz")))
local macro_rules | `(tactic| purse 9 => fail "wp") => `(tactic| first | with_reducible exact wp_nil | ((with_reducible refine' wp_cons ?h1 ?h2); (case h1 => purse 9 => fail "wp"); (case h2 => purse 9 => fail "seti")))
local macro_rules | `(tactic| purse 9 => fail "bs") => `(tactic| simp only [decide_eq_true_eq, decide_eq_false_iff_not, Bool.and_eq_true, Bool.and_eq_false_iff, Bool.or_eq_true, Bool.or_eq_false_iff, Bool.not_eq_true', Bool.not_eq_false', bne_iff_ne, ne_eq, Bool.not_true, Bool.not_false, Int.not_lt, Int.not_le] at *)
local macro_rules | `(tactic| purse 9 => fail "dec") => `(tactic| first | with_reducible assumption | (simp only [decide_eq_true_eq, decide_eq_false_iff_not, Bool.and_eq_true, Bool.and_eq_false_iff, Bool.or_eq_true, Bool.or_eq_false_iff, Bool.not_eq_true', Bool.not_eq_false', bne_iff_ne, ne_eq, bne_eq_false_iff_eq] <;> omega))
local macro_rules | `(tactic| purse 9 => fail "en") => `(tactic| first | exact en_z | (refine' en_cons ?h; (case h => purse 9 => fail "en")) | (refine' en_s ?h; (case h => purse 9 => fail "en")))
local macro_rules | `(tactic| purse 9 => fail "pc") => `(tactic| fail "no word of this call")
local macro_rules | `(tactic| purse 9 => fail "Wif") => `(tactic| first
  | with_reducible refine Wif_t ?_ | with_reducible refine Wif_f ?_ | with_reducible refine Wif_nt ?_ | with_reducible refine Wif_nf ?_ | with_reducible refine Wif_n ?_
  | ((with_reducible refine' Wif_yes ?k0 ?_); (case k0 => purse 9 => fail "dec")) | ((with_reducible refine' Wif_no ?k0 ?_); (case k0 => purse 9 => fail "dec"))
  | ((with_reducible refine' Wif_andT ?h ?_); (case h => (intro hb; try simp only [decide_eq_true_eq, Bool.and_eq_true, Bool.not_eq_true', decide_eq_false_iff_not] at hb); purse 9 => fail "px"))
  | ((with_reducible refine' Wif_orT ?h ?_); (case h => (intro hb; try simp only [decide_eq_false_iff_not, Bool.or_eq_false_iff, Bool.not_eq_false', decide_eq_true_eq] at hb); purse 9 => fail "px"))
  | ((with_reducible refine' Wif_andE ?h ?_); (case h => (intro hb; try simp only [decide_eq_true_eq, Bool.and_eq_true, Bool.not_eq_true', decide_eq_false_iff_not] at hb); purse 9 => fail "px"))
  | ((with_reducible refine' Wif_orE ?h ?_); (case h => (intro hb; try simp only [decide_eq_false_iff_not, Bool.or_eq_false_iff, Bool.not_eq_false', decide_eq_true_eq] at hb); purse 9 => fail "px")))
local macro_rules | `(tactic| purse 9 => fail "Wch") => `(tactic| first
  | ((with_reducible refine' Wif_chE ?h ?_); (case h => (intro hb; try simp only [decide_eq_true_eq, Bool.and_eq_true, Bool.not_eq_true', decide_eq_false_iff_not] at hb); purse 9 => fail "px"))
  | ((with_reducible refine' Wif_chT ?h ?_); (case h => (intro hb; try simp only [decide_eq_true_eq, Bool.and_eq_true, Bool.not_eq_true', decide_eq_false_iff_not] at hb); purse 9 => fail "px")))
local macro_rules | `(tactic| purse 9 => fail "We") => `(tactic| first
  | with_reducible refine We_int ?_
  | ((with_reducible refine' We_v ?h1 ?h2 ?_); (case h1 => exact rfl); (case h2 => purse 9 => fail "nown"))
  | ((with_reducible refine' We_vb ?h1 ?h2 ?_); (case h1 => exact rfl); (case h2 => purse 9 => fail "nm"))
  | with_reducible refine We_bin ?_ | with_reducible refine We_ix ?_ | with_reducible refine We_call ?_ | with_reducible refine We_tup (n := 0) ?_ | with_reducible refine We_cmp ?_
  | ((with_reducible refine' We_gl ?h1 ?_); (case h1 => exact rfl))
  | with_reducible refine We_b1 ?_ | with_reducible refine We_b2 ?_ | with_reducible refine We_neg ?_ | with_reducible refine We_bl ?_ | with_reducible refine We_non ?_ | with_reducible refine We_str ?_ | with_reducible refine We_fn ?_
  | with_reducible refine We_isi ?_ | with_reducible refine We_not ?_ | with_reducible refine We_and1 ?_ | with_reducible refine We_and ?_ | with_reducible refine We_or1 ?_ | with_reducible refine We_or ?_
  | with_reducible refine We_chain ?_ | with_reducible refine We_p1 ?_ | with_reducible refine We_p2 ?_ | with_reducible refine We_ch3 ?_ | with_reducible refine We_ife ?_ | with_reducible refine We_lst (n := 0) ?_ | with_reducible refine We_sl ?_ | with_reducible refine We_lc ?_
  | ((with_reducible refine' We_callv ?h1 ?_); (case h1 => exact rfl)))
local macro_rules | `(tactic| purse 9 => fail "Wt") => `(tactic| first
  | with_reducible refine Wt_cmp ?_ | with_reducible refine Wt_not ?_ | with_reducible refine Wt_call ?_ | with_reducible refine Wt_chain ?_ | with_reducible refine Wt_ch3 ?_ | with_reducible refine Wt_and1 ?_ | with_reducible refine Wt_and ?_ | with_reducible refine Wt_or1 ?_ | with_reducible refine Wt_or ?_
  | with_reducible refine Wt_isi ?_ | with_reducible refine Wt_b1 ?_ | with_reducible refine Wt_ix ?_ | with_reducible refine Wt_bl ?_ | with_reducible refine Wt_ife ?_
  | ((with_reducible refine' Wt_v ?h1 ?h2 ?_); (case h1 => exact rfl); (case h2 => purse 9 => fail "nown"))
  | ((with_reducible refine' Wt_vb ?h1 ?_); (case h1 => exact rfl))
  | ((with_reducible refine' Wt_callv ?h1 ?_); (case h1 => exact rfl)))
local macro_rules | `(tactic| purse 9 => fail "So") => `(tactic| first
  | with_reducible refine So_add ?_ | with_reducible refine So_sub ?_ | ((with_reducible refine' So_mulr ?k0 ?_); (case k0 => omega)) | ((with_reducible refine' So_mull ?k0 ?_); (case k0 => omega))
  | with_reducible refine So_cup0 ?_ | with_reducible refine So_cup1 ?_
  | ((with_reducible refine' So_ixM ?h1 ?h2 ?h3 ?_); (case h1 => purse 9 => fail "its"); (case h2 => exact fun _ => rfl); (case h3 => omega))
  | ((with_reducible refine' So_ix ?h1 ?h2 ?h3 ?_); (case h1 => purse 9 => fail "its"); (case h2 => exact rfl); (case h3 => purse 9 => fail "nm"))
  | ((with_reducible refine' So_lenL ?h1 ?h2 ?_); (case h1 => purse 9 => fail "its"); (case h2 => purse 9 => fail "len"))
  | with_reducible refine So_le ?_ | with_reducible refine So_ltI ?_ | with_reducible refine So_gt ?_ | with_reducible refine So_ge ?_ | with_reducible refine So_eqI ?_ | with_reducible refine So_neI ?_ | with_reducible refine So_eqB ?_ | with_reducible refine So_neB ?_
  | with_reducible refine So_nt ?_ | with_reducible refine So_nf ?_ | with_reducible refine So_nn ?_ | with_reducible refine So_n ?_ | with_reducible refine So_truthB ?_ | with_reducible refine So_boolB ?_
  | ((with_reducible refine' So_fdiv ?k0 ?k1 ?_); (case k0 => omega); (case k1 => omega)) | ((with_reducible refine' So_mod ?k0 ?_); (case k0 => omega)) | with_reducible refine So_neg ?_
  | ((with_reducible refine' So_isi ?h1 ?_); (case h1 => first | with_reducible exact isi_int | with_reducible exact isi_intb | with_reducible exact isi_tupt | with_reducible exact isi_intt | with_reducible exact isi_non | exact rfl))
  | with_reducible refine So_isn_t ?_ | ((with_reducible refine' So_isn_f ?k0 ?_); (case k0 => exact nofun)) | with_reducible refine So_isnn_f ?_ | ((with_reducible refine' So_isnn_t ?k0 ?_); (case k0 => exact nofun)) | with_reducible refine So_isb ?_ | with_reducible refine So_isnb ?_
  | ((with_reducible refine' So_lt ?k0 ?_); (case k0 => purse 9 => fail "sz"))
  | ((with_reducible refine' So_items ?h1 ?_); (case h1 => purse 9 => fail "its"))
  | ((with_reducible refine' So_rng1 ?k0 ?_); (case k0 => omega)) | ((with_reducible refine' So_rng2 ?k0 ?_); (case k0 => omega)) | with_reducible refine So_part ?_
  | with_reducible refine So_strS ?_ | with_reducible refine So_toint ?_ | with_reducible refine So_tointb ?_ | with_reducible refine So_abs ?_ | with_reducible refine So_min ?_ | with_reducible refine So_max ?_
  | ((with_reducible refine' So_sum ?h0 ?h1 ?_); (case h0 => first | exact notT_own | exact notT_lst); (case h1 => purse 9 => fail "its"))
  | ((with_reducible refine' So_sorted ?h0 ?h1 ?_); (case h0 => first | exact notT_own | exact notT_lst); (case h1 => purse 9 => fail "its"))
  | ((with_reducible refine' So_all ?h0 ?h1 ?_); (case h0 => first | exact notT_own | exact notT_lst); (case h1 => purse 9 => fail "its"))
  | ((with_reducible refine' So_any ?h0 ?h1 ?_); (case h0 => first | exact notT_own | exact notT_lst); (case h1 => purse 9 => fail "its"))
  | ((with_reducible refine' So_tuple ?h1 ?_); (case h1 => purse 9 => fail "its"))
  | ((with_reducible refine' So_list ?h1 ?_); (case h1 => purse 9 => fail "its"))
  | ((with_reducible refine' So_addL ?h1 ?h2 ?h3 ?_); (case h1 => purse 9 => fail "lst"); (case h2 => purse 9 => fail "lst"); (case h3 => purse 9 => fail "sz"))
  | ((with_reducible refine' So_addT ?k0 ?_); (case k0 => purse 9 => fail "sz"))
  | ((with_reducible refine' So_pow ?k0 ?k1 ?k2 ?_); (case k0 => omega); (case k1 => omega); (case k2 => simp only [Int.reduceToNat, Int.reducePow]; exact rfl))
  | with_reducible refine So_revT ?_
  | ((with_reducible refine' So_revL ?h1 ?_); (case h1 => purse 9 => fail "lst"))
  | ((with_reducible refine' So_sset ?h0 ?h1 ?h2 ?_); (case h0 => first | exact notT_own | exact notT_lst); (case h1 => purse 9 => fail "its"); (case h2 => purse 9 => fail "sz"))
  | ((with_reducible refine' So_lrng1 ?h0 ?_); (case h0 => omega)) | ((with_reducible refine' So_trng1 ?h0 ?_); (case h0 => omega)) | ((with_reducible refine' So_lrng2 ?h0 ?_); (case h0 => omega)) | ((with_reducible refine' So_trng2 ?h0 ?_); (case h0 => omega))
  | ((with_reducible refine' So_sortedP ?h0 ?h1 ?_); (case h0 => first | exact notT_own | exact notT_lst); (case h1 => purse 9 => fail "its"))
  | with_reducible refine So_truthI ?_ | with_reducible refine So_truthN ?_
  | ((with_reducible refine' So_in ?h1 ?_); (case h1 => purse 9 => fail "its"))
  | ((with_reducible refine' So_nin ?h1 ?_); (case h1 => purse 9 => fail "its"))
  | with_reducible refine So_put0 ?_ | with_reducible refine So_put1 ?_)
local macro_rules | `(tactic| purse 9 => fail "WS") => `(tactic| first
  | with_reducible refine WS_ex ?_
  | ((with_reducible refine' WS_asg (ef := ?ef) ?h ?_); (case h => (intro d; purse 9 => fail "seti")))
  | with_reducible refine WS_ife ?_ | with_reducible refine WS_tas ?_ | with_reducible refine WS_par2 ?_ | with_reducible refine WS_par3 ?_
  | ((with_reducible refine' WS_retvb ?h1 ?_); (case h1 => exact rfl))
  | ((with_reducible refine' WS_ret ?k0 ?_); (case k0 => exact rfl)) | with_reducible refine WS_ret0 ?_ | with_reducible refine WS_pass ?_ | with_reducible refine WS_brk ?_ | with_reducible refine WS_cont ?_
  | ((with_reducible refine' WS_app (ef := ?ef) ?h1 ?h2 ?h3 ?_); (case h1 => exact rfl); (case h2 => (intro d; purse 9 => fail "seti")); (case h3 => purse 9 => fail "sz"))
  | ((with_reducible refine' WS_fz ?h1 ?_); (case h1 => purse 9 => fail "fz"))
  | with_reducible refine WS_fr ?_ | with_reducible refine WS_wh ?_
  | ((with_reducible refine' WS_aug (ef := ?ef) ?h1 ?h2 ?_); (case h1 => exact rfl); (case h2 => (intro d; purse 9 => fail "seti")))
  | ((with_reducible refine' WS_cup ?h1 ?_); (case h1 => exact rfl))
  | ((with_reducible refine' WS_put (ef := ?ef) ?h1 ?h2 ?_); (case h1 => exact rfl); (case h2 => (intro d; purse 9 => fail "seti"))))
local macro_rules | `(tactic| purse 9 => fail "app") => `(tactic| first | with_reducible exact app_nil | ((with_reducible refine' app_cons ?h); (case h => purse 9 => fail "app")))
local macro_rules | `(tactic| purse 9 => fail "lit") => `(tactic| ((with_reducible refine' WLc_lit ?h0 ?h1 ?_); (case h0 => rfl); (case h1 => purse 9 => fail "wp")))
local macro_rules | `(tactic| purse 9 => fail "Ex") => `(tactic| ((with_reducible refine' Ex_mk ?h ?_); (case h => first | purse 9 => fail "nms" | purse 9 => fail "tg" | purse 9 => fail "nm" | purse 9 => fail "app")))
local macro_rules | `(tactic| purse 9 => fail "px1") => `(tactic| first
  | with_reducible assumption | purse 9 => fail "We" | purse 9 => fail "So" | with_reducible refine Wes_cons ?_ | with_reducible refine Wes_nil ?_ | purse 9 => fail "Ex" | purse 9 => fail "Wt" | purse 9 => fail "Wif" | purse 9 => fail "Wch"
  | with_reducible refine WSs_cons ?_ | purse 9 => fail "WS" | with_reducible refine WSs_nil ?_
  | with_reducible refine Wi_itr ?_ | with_reducible refine Wi_rng1 ?_ | with_reducible refine Wi_rng2 ?_ | with_reducible refine Wi_zip ?_ | with_reducible refine Wi_enum ?_
  | with_reducible refine Wo_nop ?_ | with_reducible refine Wo_itr ?_
  | ((with_reducible refine' WLg_cons ?h0 ?_); (case h0 => purse 9 => fail "sz")) | with_reducible refine WLg_nil ?_
  | with_reducible refine Wcd_nil ?_ | with_reducible refine Wcd_one ?_
  | purse 9 => fail "pc" | with_reducible exact ⟨rfl, rfl⟩ | ((with_reducible refine' ⟨?h, rfl⟩); (case h => purse 9 => fail "nm")))
local macro_rules | `(tactic| purse 9 => fail "px") => `(tactic| repeat (purse 9 => fail "px1"))
local macro_rules | `(tactic| purse 9 => fail "enter") => `(tactic| (refine' Wc_en ?h0 rfl rfl ?he (fun k' hk' => ?_); (case h0 => omega); (case he => purse 9 => fail "en"); (refine WSs_cons ?_)))

namespace PXk20
section
variable {c : C} {Q : D → C → Prop}
theorem cup_ok {k : Nat} (hk : 1 ≤ k) {ns : List Int} (h : ns.length ≤ 63) (hq : ∀ p q, Q (.own [.int p, .int q]) none) : Wc (PX.run tab k) J__law_cup [.scr ns] none Q := by
  obtain ⟨x, r, hx⟩ : ∃ (x : Int) (r : List D), ns.map D.int ++ [.int 0] = .int x :: r := by
    cases ns with
    | nil => exact ⟨0, [], rfl⟩
    | cons a l => exact ⟨a, l.map D.int ++ [.int 0], rfl⟩
  purse 9 => fail "enter"
  purse 9 => fail "px"
  rw [hx]
  refine' So_ix its_own ?h1 nm_int ?_
  case h1 => rw [atI_nat (by omega) (by simp only [List.length_cons]; omega)]; rfl
  purse 9 => fail "px"
  refine Wif_s (fun h => ?_) (fun h => ?_)
  · purse 9 => fail "px"
    exact hq _ _
  · purse 9 => fail "px"
    exact hq _ _
theorem roll_ok {k : Nat} (hk : 1 ≤ k) {p q m : Int} (hm : 0 < m) (hb : m < 2 ^ 64) (hq : ∀ r p' q', 0 ≤ r → r < m → Q (.int r) (some (p', q'))) : Wc (PX.run tab k) J__law_roll [.cup, .int m] (some (p, q)) Q := by
  purse 9 => fail "enter"
  purse 9 => fail "px"
  refine Wif_s (fun h => ?_) (fun h => ?_)
  · purse 9 => fail "px"
    exact hq _ _ _ (Int.emod_nonneg _ (by omega)) (Int.emod_lt_of_pos _ hm)
  · purse 9 => fail "px"
    exact hq _ _ _ (Int.emod_nonneg _ (by omega)) (Int.emod_lt_of_pos _ hm)
theorem some_ok {k : Nat} (hk : 2 ≤ k) {p q : Int} {ds : List D} (h : 0 < ds.length) (hz : ds.length < 1000000) (hq : ∀ d p' q', d ∈ ds → Q (norm d) (some (p', q'))) : Wc (PX.run tab k) J__law_some [.cup, .lst ds] (some (p, q)) Q := by
  purse 9 => fail "enter"
  purse 9 => fail "px"
  refine roll_ok (by omega) (by omega) (by omega) fun r p' q' h0 h1 => ?_
  refine' So_ix its_lst ?h1 nm_any ?_
  case h1 => rw [atI_nat h0 h1, List.getElem?_eq_getElem (by omega)]
  exact hq _ _ _ (List.getElem_mem _)
end
mutual
/-- plain told values -/
def plainD : D → Bool
  | .tup ds => decide (ds.length < 1000000) && plainDs ds
  | .non => true
  | .bl _ => true
  | .int _ => true
  | .str x => SeqAt.shaped (.str x)
  | _ => false
def plainDs : List D → Bool
  | [] => true
  | d :: ds => plainD d && plainDs ds
end
mutual
def depD : D → Nat
  | .tup ds => depDs ds + 1
  | _ => 0
def depDs : List D → Nat
  | [] => 0
  | d :: ds => max (depD d) (depDs ds)
end
theorem plain_mem : ∀ {ds : List D} {d : D}, plainDs ds = true → d ∈ ds → plainD d = true ∧ depD d ≤ depDs ds
  | [], _, _, h => by cases h
  | x :: ds, d, hp, h => by
    rw [plainDs, Bool.and_eq_true] at hp
    rw [depDs]
    rcases List.mem_cons.mp h with z | z
    · rw [z]; exact ⟨hp.1, by omega⟩
    · obtain ⟨a, b⟩ := plain_mem hp.2 z
      exact ⟨a, by omega⟩
theorem plain_nown {d : D} (h : plainD d = true) : nown d := by intro ds e; subst e; cases h
theorem deq_str {x : Str} (h : SeqAt.shaped (.str x) = true) : deq (.str x) (.str x) = some true := by
  have h2 : PyData.eqv (.str x) (.str x) = true := by rw [PyData.eqv]; simp
  unfold deq
  simp [pd, h, h2]
theorem same_ok {c : C} : ∀ (d : D) {k : Nat} {Q : D → C → Prop}, depD d + 1 ≤ k → plainD d = true → Q (.bl true) c → Wc (PX.run tab k) J__law_same [d, d] c Q
  | .non, k, Q, hk, hp, hq => by
    purse 9 => fail "enter"
    purse 9 => fail "px"
  | .bl b, k, Q, hk, hp, hq => by
    purse 9 => fail "enter"
    purse 9 => fail "px"
    cases b
    · purse 9 => fail "px"
      exact hq
    · purse 9 => fail "px"
      exact hq
  | .int i, k, Q, hk, hp, hq => by
    purse 9 => fail "enter"
    purse 9 => fail "px"
    simpa using hq
  | .str x, k, Q, hk, hp, hq => by
    purse 9 => fail "enter"
    purse 9 => fail "px"
    exact So.mk (deq_str hp) hq
  | .lst _, _, _, _, h, _ => by simp [plainD] at h
  | .own _, _, _, _, h, _ => by simp [plainD] at h
  | .scr _, _, _, _, h, _ => by simp [plainD] at h
  | .cup, _, _, _, h, _ => by simp [plainD] at h
  | .fn _, _, _, _, h, _ => by simp [plainD] at h
  | .tup ds, k, Q, hk, hp, hq => by
    rw [plainD, Bool.and_eq_true, decide_eq_true_eq] at hp
    rw [depD] at hk
    have ih : ∀ d ∈ ds, ∀ {k : Nat} {Q : D → C → Prop}, depD d + 1 ≤ k → plainD d = true → Q (.bl true) c → Wc (PX.run tab k) J__law_same [d, d] c Q := fun d _ => same_ok d
    purse 9 => fail "enter"
    purse 9 => fail "px"
    refine' WLc_rng0 (fun _ => .bl true) rfl ?hw ?hz (fun a => ?ht) (fun a h1 h2 => ?_) ?q
    case hw => purse 9 => fail "wp"
    case hz => show _ ≤ 16777216; omega
    case ht => purse 9 => fail "tg"
    · purse 9 => fail "px"
      have hm : ds[a.toNat]'(by omega) ∈ ds := List.getElem_mem _
      obtain ⟨p1, p2⟩ := plain_mem hp.2 hm
      have key : L2.atI ds a = some (ds[a.toNat]'(by omega)) := by rw [atI_nat (by omega) (by omega), List.getElem?_eq_getElem (by omega)]
      have hn := plain_nown p1
      refine' So_ix its_tup key (nm_n hn) ?_
      purse 9 => fail "px"
      refine' So_ix its_tup key (nm_n hn) ?_
      purse 9 => fail "px"
      refine ih _ hm ?_ p1 ?_
      · omega
      · exact ⟨rfl, rfl⟩
    case q =>
      refine' So_all notT_own its_own ?_
      rw [List.all_eq_true.mpr (fun _ _ => rfl)]
      exact hq
theorem same_eq {c : C} {Q : D → C → Prop} {k : Nat} {x y : D} (e : x = y) (hk : depD y + 1 ≤ k) (hp : plainD y = true) (hq : Q (.bl true) c) : Wc (PX.run tab k) J__law_same [x, y] c Q := by
  subst e; exact same_ok x hk hp hq
theorem someI_ok (P : Int → Prop) {Q : D → C → Prop} {k : Nat} (hk : 2 ≤ k) {p q : Int} {ds : List D} (h : 0 < ds.length) (hz : ds.length < 1000000) (hP : ∀ d ∈ ds, ∃ m : Int, d = .int m ∧ P m) (hq : ∀ m p' q', P m → Q (.int m) (some (p', q'))) : Wc (PX.run tab k) J__law_some [.cup, .lst ds] (some (p, q)) Q := by
  refine some_ok hk h hz fun d p' q' hd => ?_
  obtain ⟨m, rfl, hm⟩ := hP d hd
  exact hq m p' q' hm
theorem int_mem {P : Int → Prop} {d : D} {l : List Int} (h : d ∈ l.map D.int) (hP : ∀ i ∈ l, P i) : ∃ m : Int, d = .int m ∧ P m := by
  obtain ⟨m, hm, rfl⟩ := List.mem_map.mp h
  exact ⟨m, rfl, hP m hm⟩
theorem plains_ints : ∀ l : List Int, plainDs (l.map .int) = true ∧ depDs (l.map .int) = 0
  | [] => ⟨by rw [List.map_nil, plainDs], by rw [List.map_nil, depDs]⟩
  | i :: l => by
    obtain ⟨h1, h2⟩ := plains_ints l
    exact ⟨by rw [List.map_cons, plainDs, h1, Bool.and_true]; rfl, by rw [List.map_cons, depDs, h2]; rfl⟩
theorem plain_ints {l : List Int} (h : l.length < 1000000) : plainD (.tup (l.map .int)) = true := by
  rw [plainD, (plains_ints l).1, List.length_map, decide_eq_true h]; rfl
theorem dep_ints {l : List Int} : depD (.tup (l.map .int)) = 1 := by rw [depD, (plains_ints l).2]

/-! ### great numbers; fractions in lowest terms -/
def Bg (x : Int) (n : Nat) : Prop := x.natAbs < 2 ^ n
theorem Bg.mulOk {x y : Int} {a b : Nat} (h : Bg x a) (h' : Bg y b) (ha : a ≤ 400000) (hb : b ≤ 400000) : PX.mulOk x y = true := by
  unfold PX.mulOk
  rw [decide_eq_true (show x.natAbs < 2 ^ 400000 from Nat.lt_of_lt_of_le h (Nat.pow_le_pow_right (by omega) ha)), decide_eq_true (show y.natAbs < 2 ^ 400000 from Nat.lt_of_lt_of_le h' (Nat.pow_le_pow_right (by omega) hb))]
  simp only [Bool.and_self, Bool.or_true]
theorem Bg.mul {x y : Int} {a b n : Nat} (h : Bg x a) (h' : Bg y b) (hn : a + b ≤ n) : Bg (x * y) n := by
  unfold Bg at *
  rw [Int.natAbs_mul]
  refine Nat.lt_of_lt_of_le ?_ (Nat.pow_le_pow_right (by omega) hn)
  rw [Nat.pow_add]
  exact Nat.mul_lt_mul'' h h'
theorem Bg.mono {x : Int} {a n : Nat} (h : Bg x a) (hn : a ≤ n) : Bg x n := Nat.lt_of_lt_of_le h (Nat.pow_le_pow_right (by omega) hn)
theorem Bg.add {x y : Int} {a b n : Nat} (h : Bg x a) (h' : Bg y b) (ha : a < n) (hb : b < n) : Bg (x + y) n := by
  obtain ⟨n, rfl⟩ : ∃ m, n = m + 1 := ⟨n - 1, by omega⟩
  have h := h.mono (show a ≤ n by omega)
  have h' := h'.mono (show b ≤ n by omega)
  unfold Bg at *
  rw [Nat.pow_succ]
  generalize 2 ^ n = u at *
  omega
theorem Bg.le {x y : Int} {a : Nat} (h : Bg y a) (h0 : 0 ≤ x) (h1 : x ≤ y) : Bg x a := by
  unfold Bg at *
  generalize 2 ^ a = u at *
  omega
theorem Bg.abs {x y : Int} {a : Nat} (h : Bg y a) (h1 : x.natAbs ≤ y.natAbs) : Bg x a := Nat.lt_of_le_of_lt h1 h
theorem Bg.pow {x : Int} {a n : Nat} (h : x.natAbs ≤ 2 ^ a) (hn : a * k < n) : Bg (x ^ k) n := by
  unfold Bg
  rw [Int.natAbs_pow]
  refine Nat.lt_of_le_of_lt (Nat.pow_le_pow_left h k) ?_
  rw [← Nat.pow_mul]
  exact Nat.pow_lt_pow_right (by omega) hn
theorem Bg.nat {x : Int} {n : Nat} {m : Nat} (h0 : 0 ≤ x) (h : x < (m : Int)) (hm : m ≤ 2 ^ n) : Bg x n := by
  unfold Bg
  exact Nat.lt_of_lt_of_le (by omega) hm
theorem So_mulB {K : D → Prop} {i j : Int} {a b : Nat} (h : Bg i a) (h' : Bg j b) (ha : a ≤ 400000) (hb : b ≤ 400000) (k : K (.int (i * j))) : So (binv .mul (.int i) (.int j)) K := So_mulb (h.mulOk h' ha hb) k
theorem So_fdivB {K : D → Prop} {i j : Int} (h0 : 0 < j) (h : Bg j 9000) (k : K (.int (i / j))) : So (binv .fdiv (.int i) (.int j)) K := ⟨_, if_pos ⟨h0, .inl h⟩, k⟩
/-- a fraction in lowest terms -/
def fn (t b : Int) : Int := t / (Int.gcd t b : Int)
def fb (t b : Int) : Int := b / (Int.gcd t b : Int)
def fr (t b : Int) : D := .tup [.int (fn t b), .int (fb t b)]
theorem fr_cross {t b : Int} (hb : 0 < b) : fn t b * b = t * fb t b ∧ 0 < fb t b ∧ fb t b ≤ b ∧ (fn t b).natAbs ≤ t.natAbs ∧ (0 ≤ t → 0 ≤ fn t b ∧ fn t b ≤ t) := by
  unfold fn fb
  have g0 : 0 < (Int.gcd t b : Int) := by
    have : 0 < Int.gcd t b := Int.gcd_pos_of_ne_zero_right _ (by omega)
    omega
  obtain ⟨x, hx⟩ : (Int.gcd t b : Int) ∣ t := Int.gcd_dvd_left _ _
  obtain ⟨y, hy⟩ : (Int.gcd t b : Int) ∣ b := Int.gcd_dvd_right _ _
  generalize (Int.gcd t b : Int) = g at *
  subst hx hy
  rw [Int.mul_ediv_cancel_left _ (by omega), Int.mul_ediv_cancel_left _ (by omega)]
  have y0 : 0 < y := Int.pos_of_mul_pos_right hb g0
  refine ⟨by grind, y0, ?_, ?_, fun h => ?_⟩
  · have := Int.mul_le_mul_of_nonneg_right (show 1 ≤ g by omega) (show 0 ≤ y by omega)
    omega
  · rw [Int.natAbs_mul]
    exact Nat.le_mul_of_pos_left _ (by omega)
  · have x0 : 0 ≤ x := by
      by_cases z : 0 ≤ x
      · exact z
      · have := Int.mul_neg_of_pos_of_neg g0 (show x < 0 by omega)
        omega
    have := Int.mul_le_mul_of_nonneg_right (show 1 ≤ g by omega) x0
    exact ⟨x0, by omega⟩
theorem fr_cop {t b : Int} (hb : 0 < b) : Int.gcd (fn t b) (fb t b) = 1 := by
  unfold fn fb
  exact Int.gcd_ediv_gcd_ediv_gcd (Int.gcd_pos_of_ne_zero_right _ (by omega))
theorem dvd_cop {x y z : Int} (h : Int.gcd x y = 1) (d : y ∣ x * z) : y ∣ z := by
  rw [← Int.natAbs_dvd_natAbs] at d ⊢
  rw [Int.natAbs_mul] at d
  exact Nat.Coprime.dvd_of_dvd_mul_left (by rw [Nat.coprime_comm]; exact h) d
theorem gcd_mod {a b : Int} (h0 : 0 ≤ a) (h1 : 0 ≤ b) : Int.gcd b (a % b) = Int.gcd a b := by
  obtain ⟨x, rfl⟩ := Int.eq_ofNat_of_zero_le h0
  obtain ⟨y, rfl⟩ := Int.eq_ofNat_of_zero_le h1
  rw [← Int.natCast_emod, Int.gcd_natCast_natCast, Int.gcd_natCast_natCast, Nat.gcd_comm y, ← Nat.gcd_rec, Nat.gcd_comm]
theorem cop_eq {x y x' y' : Int} (h : Int.gcd x y = 1) (h' : Int.gcd x' y' = 1) (y0 : 0 < y) (y1 : 0 < y') (e : x * y' = x' * y) : x = x' ∧ y = y' := by
  have d1 : y ∣ y' := by
    have : y ∣ x * y' := ⟨x', by rw [e, Int.mul_comm]⟩
    exact dvd_cop h this
  have d2 : y' ∣ y := by
    have : y' ∣ x' * y := ⟨x, by rw [← e, Int.mul_comm]⟩
    exact dvd_cop h' this
  have : y = y' := by
    have := Int.le_of_dvd (by omega) d1
    have := Int.le_of_dvd (by omega) d2
    omega
  subst this
  exact ⟨Int.eq_of_mul_eq_mul_right (by omega) e, rfl⟩
theorem fr_eq {t b t' b' : Int} (hb : 0 < b) (hb' : 0 < b') (e : t * b' = t' * b) : fr t b = fr t' b' := by
  obtain ⟨h1, h2, h3, h4, _⟩ := fr_cross (t := t) hb
  obtain ⟨g1, g2, g3, g4, _⟩ := fr_cross (t := t') hb'
  have : fn t b = fn t' b' ∧ fb t b = fb t' b' := by
    refine cop_eq (fr_cop hb) (fr_cop hb') h2 g2 ?_
    have z : (fn t b * fb t' b') * (b * b') = (fn t' b' * fb t b) * (b * b') := by grind
    exact Int.eq_of_mul_eq_mul_right (by have := Int.mul_pos hb hb'; omega) z
  unfold fr
  rw [this.1, this.2]
/-- Euclid's walk: what is kept -/
def EU (G n : Nat) (a b : Int) : Prop := 0 ≤ a ∧ 0 ≤ b ∧ Int.gcd a b = G ∧ ((b ≤ a ∧ a * b < 2 ^ n) ∨ (a < b ∧ ∃ m, n = m + 1 ∧ a * b < 2 ^ m))
theorem EU.step {G n : Nat} {a b : Int} (h : EU G n a b) (hb : 0 < b) : ∃ n', n' < n ∧ EU G n' b (a % b) := by
  obtain ⟨h0, h1, h2, h3⟩ := h
  have m0 := Int.emod_nonneg a (show b ≠ 0 by omega)
  have m1 := Int.emod_lt_of_pos a hb
  have hg : Int.gcd b (a % b) = G := by rw [← h2]; exact gcd_mod h0 h1
  rcases h3 with ⟨h3, h4⟩ | ⟨h3, m, rfl, h4⟩
  · have pos : 0 < a * b := Int.mul_pos (by omega) hb
    obtain ⟨n, rfl⟩ : ∃ m, n = m + 1 := by
      cases n with
      | zero => exact absurd h4 (by rw [Int.pow_zero]; omega)
      | succ m => exact ⟨m, rfl⟩
    refine ⟨n, by omega, h1, m0, hg, .inl ⟨by omega, ?_⟩⟩
    have e := Int.mul_ediv_add_emod a b
    have q1 : 1 ≤ a / b := by
      exact (Int.le_ediv_iff_mul_le hb).mpr (by omega)
    have : b * 1 ≤ b * (a / b) := Int.mul_le_mul_of_nonneg_left q1 (by omega)
    have : (2 * (a % b)) * b ≤ a * b := Int.mul_le_mul_of_nonneg_right (by omega) (by omega)
    rw [Int.pow_succ] at h4
    rw [Int.mul_comm b]
    rw [Int.mul_assoc] at this
    generalize (a % b) * b = u at *
    generalize (2 : Int) ^ n = v at *
    omega
  · refine ⟨m, by omega, h1, m0, hg, .inl ⟨by omega, ?_⟩⟩
    rw [Int.emod_eq_of_lt h0 h3, Int.mul_comm]
    exact h4
theorem EU.start {a b : Int} {i j : Nat} (h0 : 0 ≤ a) (h1 : 0 ≤ b) (hi : Bg a i) (hj : Bg b j) : EU (Int.gcd a b) (i + j + 1) a b := by
  have k : a * b < 2 ^ (i + j) := by
    have : Bg (a * b) (i + j) := hi.mul hj (by omega)
    unfold Bg at this
    have := Int.mul_nonneg h0 h1
    rw [show (2 : Int) ^ (i + j) = ((2 ^ (i + j) : Nat) : Int) by rw [Int.natCast_pow]; rfl]
    omega
  refine ⟨h0, h1, rfl, ?_⟩
  by_cases z : b ≤ a
  · refine .inl ⟨z, ?_⟩
    rw [Int.pow_succ]
    have := Int.pow_pos (n := 2) (m := i + j) (by omega)
    omega
  · exact .inr ⟨by omega, _, rfl, k⟩
theorem EU.done {G n : Nat} {a b : Int} (h : EU G n a b) (hb : b = 0) : a = G := by
  obtain ⟨h0, h1, h2, _⟩ := h
  subst hb
  rw [← h2, Int.gcd_zero_right]
  omega
theorem EU.st {a b : Int} {i j n : Nat} (hn : i + j + 1 = n) (h0 : 0 ≤ a) (h1 : 0 ≤ b) (hi : Bg a i) (hj : Bg b j) : EU (Int.gcd a b) n a b := by
  subst hn; exact EU.start h0 h1 hi hj
theorem gcd_abs (t b : Int) : Int.gcd (if t < 0 then -t else t) b = Int.gcd t b := by
  split
  · unfold Int.gcd
    rw [Int.natAbs_neg]
  · rfl
theorem gcd_le {t b : Int} (hb : 0 < b) : 0 < (Int.gcd t b : Int) ∧ (Int.gcd t b : Int) ≤ b := by
  have : 0 < Int.gcd t b := Int.gcd_pos_of_ne_zero_right _ (by omega)
  exact ⟨by omega, Int.le_of_dvd hb (Int.gcd_dvd_right _ _)⟩

/-! ### what the laws of savings share -/
abbrev pl (s d m o : Int) : D := .tup [.int s, .int d, .int m, .int o]
def isP (s d m o : Int) : Prop := 0 ≤ s ∧ s ≤ 1000000 ∧ 0 ≤ d ∧ d ≤ 1000000 ∧ 1 ≤ o ∧ o ≤ 10000 ∧ 0 ≤ m ∧ m ≤ o
theorem ct0 {α : Type} {r : List α} : cut r none (some 0) = [] := by rw [cut_to _ (by omega)]; rfl
theorem ct1 {α : Type} {a : α} {r : List α} : cut (a :: r) none (some 1) = [a] := by rw [cut_to _ (by omega)]; rfl
theorem ct2 {α : Type} {a b : α} {r : List α} : cut (a :: b :: r) none (some 2) = [a, b] := by rw [cut_to _ (by omega)]; rfl
theorem ct3 {α : Type} {a b d : α} {r : List α} : cut (a :: b :: d :: r) none (some 3) = [a, b, d] := by rw [cut_to _ (by omega)]; rfl
theorem cf1 {α : Type} {a : α} {r : List α} : cut (a :: r) (some 1) none = r := by rw [cut_from _ (by omega)]; rfl
theorem cf2 {α : Type} {a b : α} {r : List α} : cut (a :: b :: r) (some 2) none = r := by rw [cut_from _ (by omega)]; rfl
theorem cf3 {α : Type} {a b d : α} {r : List α} : cut (a :: b :: d :: r) (some 3) none = r := by rw [cut_from _ (by omega)]; rfl
theorem cf4 {α : Type} {a b d e : α} {r : List α} : cut (a :: b :: d :: e :: r) (some 4) none = r := by rw [cut_from _ (by omega)]; rfl
local macro_rules | `(tactic| purse 9 => fail "pc") => `(tactic| ((with_reducible refine' So_slT ?h ?_); (case h => first | exact ct0 | exact ct1 | exact ct2 | exact ct3 | exact cf1 | exact cf2 | exact cf3 | exact cf4)))
def okD : D → Bool
  | .int _ => true | .non => true | .bl _ => true | .str _ => true | .tup _ => true | .lst _ => true | _ => false
def fw : D → Int → Int → Bool
  | .int i, lo, hi => decide (lo ≤ i) && decide (i ≤ hi)
  | _, _, _ => false
theorem okD.nown {d : D} (h : okD d = true) : nown d := by intro ds e; subst e; cases h
section
variable {c : C} {Q : D → C → Prop} {k : Nat} {s d m o : Int}
theorem fw_ok (hk : 2 ≤ k) {x : D} (hx : okD x = true) {lo hi : Int} (hq : Q (.bl (fw x lo hi)) c) : Wc (PX.run tab k) J_fits_whole [x, .int lo, .int hi] c Q := by
  have w : ∀ {k : Nat} {Q : D → C → Prop}, 1 ≤ k → Q (.bl (match x with | .int _ => true | _ => false)) c → Wc (PX.run tab k) J_is_whole [x] c Q := by
    intro k Q hk hq
    cases x <;> first | cases hx | skip
    all_goals
      purse 9 => fail "enter"
      purse 9 => fail "px"
  have n := okD.nown hx
  purse 9 => fail "enter"
  purse 9 => fail "px"
  refine w (by omega) ?_
  cases x <;> first | cases hx | skip
  all_goals
    purse 9 => fail "px"
    exact hq
theorem tupof_ok (hk : 1 ≤ k) {ds : List D} {a b : Int} (hq : Q (.bl (decide (a ≤ ds.length) && decide ((ds.length : Int) ≤ b))) c) : Wc (PX.run tab k) J_is_tuple_of [.tup ds, .int a, .int b] c Q := by
  purse 9 => fail "enter"
  purse 9 => fail "px"
/-- what is no plan -/
def Bad (odd : D) : Prop := ∀ {k : Nat} {c : C} {Q : D → C → Prop}, 4 ≤ k → Q (.bl false) c → Wc (PX.run tab k) J_fits_plan [odd] c Q
theorem bad_nt {odd : D} (ho : okD odd = true) (h : ∀ ds, odd ≠ .tup ds) : Bad odd := by
  intro k c Q hk hq
  have w : ∀ {k : Nat} {Q : D → C → Prop}, 1 ≤ k → Q (.bl false) c → Wc (PX.run tab k) J_is_tuple_of [odd, .int 4, .int 4] c Q := by
    intro k Q hk hq
    cases odd <;> first | cases ho | skip
    all_goals first
    | exact absurd rfl (h _)
    | (purse 9 => fail "enter"
       purse 9 => fail "px")
  have n := okD.nown ho
  purse 9 => fail "enter"
  purse 9 => fail "px"
  refine w (by omega) ?_
  purse 9 => fail "px"
theorem bad_len {ds : List D} (h : ds.length ≠ 4) : Bad (.tup ds) := by
  intro k c Q hk hq
  purse 9 => fail "enter"
  purse 9 => fail "px"
  refine tupof_ok (by omega) ?_
  rw [show (decide ((4 : Int) ≤ ds.length) && decide ((ds.length : Int) ≤ 4)) = false by
    rw [← Bool.decide_and]; exact decide_eq_false (by omega)]
  purse 9 => fail "px"
theorem fp4 (hk : 4 ≤ k) {x y z w : D} (hx : okD x = true) (hy : okD y = true) (hz : okD z = true) (hw : okD w = true) (hq : Q (.bl (fw x 0 1000000 && (fw y 0 1000000 && (fw w 1 10000 && match w with | .int o => fw z 0 o | _ => false)))) c) : Wc (PX.run tab k) J_fits_plan [.tup [x, y, z, w]] c Q := by
  have n1 := okD.nown hx
  have n2 := okD.nown hy
  have n3 := okD.nown hz
  have n4 := okD.nown hw
  purse 9 => fail "enter"
  purse 9 => fail "px"
  refine tupof_ok (by omega) ?_
  rw [show (decide ((4 : Int) ≤ [x, y, z, w].length) && decide (([x, y, z, w].length : Int) ≤ 4)) = true from rfl]
  purse 9 => fail "px"
  refine' WLc_map0 (L := [x, y]) (φ := id) (fun x => .bl (fw x 0 1000000)) rfl ?hw2 (by show 2 ≤ 16777216; omega) (fun a _ => ?ht) (fun a ha => ?hs) ?q
  case hw2 => purse 9 => fail "wp"
  case ht => exact tg_n nm_any set1
  case hs =>
    have ok : okD a = true := by
      simp only [List.mem_cons, List.not_mem_nil, or_false] at ha
      rcases ha with rfl | rfl <;> assumption
    have n := okD.nown ok
    rw [id, norm_nw n]
    purse 9 => fail "px"
    refine fw_ok (by omega) ok ?_
    exact ⟨rfl, rfl⟩
  case q =>
    refine' So_all (f := fun x => fw x 0 1000000) notT_own its_own ?_
    rw [show [x, y].all (fun x => fw x 0 1000000) = (fw x 0 1000000 && fw y 0 1000000) by simp only [List.all_cons, List.all_nil, Bool.and_true]]
    generalize e1 : fw x 0 1000000 = b1 at *
    generalize e2 : fw y 0 1000000 = b2 at *
    cases b1
    · rw [Bool.false_and] at hq ⊢
      purse 9 => fail "px"
    · cases b2
      · rw [Bool.false_and, Bool.and_false] at hq
        rw [Bool.and_false]
        purse 9 => fail "px"
      · rw [Bool.true_and, Bool.true_and] at hq
        rw [Bool.and_self]
        purse 9 => fail "px"
        refine fw_ok (by omega) hw ?_
        rcases (show (∃ o', w = .int o') ∨ ∀ a b, fw w a b = false by cases w <;> first | exact .inl ⟨_, rfl⟩ | exact .inr fun _ _ => rfl) with ⟨o', rfl⟩ | e3
        · generalize e3 : fw (.int o') 1 10000 = b3 at *
          cases b3
          · rw [Bool.false_and] at hq
            purse 9 => fail "px"
          · rw [Bool.true_and] at hq
            purse 9 => fail "px"
            refine fw_ok (by omega) hz ?_
            purse 9 => fail "px"
        · rw [e3, Bool.false_and] at hq
          rw [e3]
          purse 9 => fail "px"
end
section
variable {c : C} {Q : D → C → Prop} {k : Nat} {s d m o : Int}
theorem fp_ok (hk : 4 ≤ k) (h : isP s d m o) (hq : Q (.bl true) c) : Wc (PX.run tab k) J_fits_plan [pl s d m o] c Q := by
  obtain ⟨h1, h2, h3, h4, h5, h6, h7, h8⟩ := h
  refine fp4 hk rfl rfl rfl rfl ?_
  simp only [fw, decide_eq_true h1, decide_eq_true h2, decide_eq_true h3, decide_eq_true h4, decide_eq_true h5, decide_eq_true h6, decide_eq_true h7, decide_eq_true h8, Bool.and_self]
  exact hq
theorem nplan_ok (hk : 5 ≤ k) (h : isP s d m o) (hq : Q .non c) : Wc (PX.run tab k) J_need_plan [pl s d m o] c Q := by
  purse 9 => fail "enter"
  purse 9 => fail "px"
  refine fp_ok (by omega) h ?_
  purse 9 => fail "px"
theorem nnum_ok (hk : 3 ≤ k) {v lo hi : Int} (h : lo ≤ v ∧ v ≤ hi) (hq : Q .non c) : Wc (PX.run tab k) J_need_number [.int v, .int lo, .int hi] c Q := by
  purse 9 => fail "enter"
  purse 9 => fail "px"
  refine fw_ok (by omega) rfl ?_
  rw [show fw (.int v) lo hi = true by show (decide (lo ≤ v) && decide (v ≤ hi)) = true; rw [decide_eq_true h.1, decide_eq_true h.2]; rfl]
  purse 9 => fail "px"
theorem power_ok (hk : 1 ≤ k) {b : Int} {n : Nat} (hb : 0 ≤ b ∧ b ≤ 32768) (hn : n ≤ 1000) (hq : Q (.int (b ^ n)) c) : Wc (PX.run tab k) J_power_of [.int b, .int n] c Q := by
  have bg : ∀ x : Nat, x ≤ 1000 → Bg (b ^ x) 15001 := fun x hx => Bg.pow (a := 15) (by omega) (by omega)
  purse 9 => fail "enter"
  purse 9 => fail "px"
  refine WWh_inv (fun e c1 q => c1 = c ∧ ∃ x y : Nat, e = [some (.int (b ^ y)), some (.int (q : Int)), some (.int (b ^ x))] ∧ x + y * q = n) 100000 n _ _ (by omega) ⟨rfl, 0, 1, by rw [Int.pow_zero, Int.pow_succ, Int.pow_zero, Int.one_mul], by omega⟩ ?_
  rintro q e c1 ⟨rfl, x, y, rfl, he⟩
  purse 9 => fail "px"
  refine Wif_s (fun z => ?_) (fun z => ?_)
  · have z := of_decide_eq_true z
    have y1 : y * 1 ≤ y * q := Nat.mul_le_mul_left _ (by omega)
    have by1 := bg y (by omega)
    have hd : y * q = y * (q % 2) + (2 * y) * (q / 2) := by
      conv => lhs; rw [← Nat.mod_add_div q 2, Nat.mul_add, ← Nat.mul_assoc, Nat.mul_comm y 2]
    have e1 : (q : Int) / 2 = ((q / 2 : Nat) : Int) := by omega
    have e2 : b ^ y * b ^ y = b ^ (2 * y) := by rw [← Int.pow_add]; congr 1; omega
    purse 9 => fail "px"
    refine Wif_s (fun w => ?_) (fun w => ?_)
    · have w := of_decide_eq_true w
      have w : q % 2 = 1 := by omega
      rw [w] at hd
      purse 9 => fail "px"
      refine So_mulB (bg x (by omega)) by1 (by omega) (by omega) ?_
      purse 9 => fail "px"
      refine So_mulB by1 by1 (by omega) (by omega) ?_
      purse 9 => fail "px"
      refine ⟨q / 2, by omega, rfl, x + y, 2 * y, ?_, by omega⟩
      rw [e1, e2, Int.pow_add]
    · have w := of_decide_eq_false w
      have w : q % 2 = 0 := by omega
      rw [w] at hd
      purse 9 => fail "px"
      refine So_mulB by1 by1 (by omega) (by omega) ?_
      purse 9 => fail "px"
      refine ⟨q / 2, by omega, rfl, x, 2 * y, ?_, by omega⟩
      rw [e1, e2]
  · have z := of_decide_eq_false z
    have : q = 0 := by omega
    subst this
    have : x = n := by omega
    subst this
    purse 9 => fail "px"
/-- what deposits of one come to, and what a plan comes to -/
def U (m o : Int) : Nat → Int
  | 0 => 0
  | p + 1 => U m o p * (o + m) + o ^ (p + 1)
def A (s d m o : Int) : Nat → Int
  | 0 => s
  | p + 1 => A s d m o p * (o + m) + d * o ^ (p + 1)
theorem A_eq (s d m o : Int) : ∀ p, A s d m o p = s * (o + m) ^ p + d * U m o p
  | 0 => by rw [A, U, Int.pow_zero]; omega
  | p + 1 => by rw [A, U, A_eq s d m o p, Int.pow_succ, Int.pow_succ]; grind
theorem U_eq (m o : Int) : ∀ p, ((o + m) ^ p - o ^ p) * o = m * U m o p
  | 0 => by rw [U, Int.pow_zero, Int.pow_zero]; omega
  | p + 1 => by
    have := U_eq m o p
    rw [U, Int.pow_succ, Int.pow_succ]
    grind
theorem U_z (o : Int) : ∀ p : Nat, U 0 o p = p * o ^ p
  | 0 => by rw [U]; omega
  | p + 1 => by rw [U, U_z o p, Int.pow_succ, Int.natCast_add]; grind
theorem U_pos {m o : Int} (hm : 0 ≤ m) (ho : 0 ≤ o) : ∀ p, 0 ≤ U m o p
  | 0 => Int.le_refl _
  | p + 1 => by
    rw [U]
    have := Int.mul_nonneg (U_pos hm ho p) (show 0 ≤ o + m by omega)
    have := Int.pow_nonneg (n := o) (m := p + 1) ho
    omega
theorem A_pos {s d m o : Int} (h : isP s d m o) (p : Nat) : 0 ≤ A s d m o p := by
  obtain ⟨h1, h2, h3, h4, h5, h6, h7, h8⟩ := h
  rw [A_eq]
  have := Int.mul_nonneg h1 (Int.pow_nonneg (n := o + m) (m := p) (by omega))
  have := Int.mul_nonneg h3 (U_pos h7 (show 0 ≤ o by omega) p)
  omega
theorem o_pos {o : Int} (h : 1 ≤ o) (p : Nat) : 0 < o ^ p := Int.pow_pos (by omega)
end
section
variable {c : C} {Q : D → C → Prop} {k : Nat} {s d m o : Int}
theorem U_le (hm : 0 ≤ m) (hmo : m ≤ o) (ho : o ≤ 10000) : ∀ p : Nat, U m o p ≤ p * 32768 ^ p ∧ (o + m) ^ p ≤ 32768 ^ p ∧ o ^ p ≤ 32768 ^ p
  | 0 => by rw [U, Int.pow_zero, Int.pow_zero, Int.pow_zero]; omega
  | p + 1 => by
    obtain ⟨h1, h2, h3⟩ := U_le hm hmo ho p
    have u0 := U_pos hm (show 0 ≤ o by omega) p
    have k0 : (0 : Int) < 32768 ^ p := Int.pow_pos (by omega)
    have k1 := Int.pow_nonneg (n := o + m) (m := p) (by omega)
    have k2 := Int.pow_nonneg (n := o) (m := p) (by omega)
    have e1 : U m o p * (o + m) ≤ p * 32768 ^ p * 32768 := Int.mul_le_mul h1 (by omega) (by omega) (Int.mul_nonneg (by omega) (by omega))
    have e2 : (o + m) ^ p * (o + m) ≤ 32768 ^ p * 32768 := Int.mul_le_mul h2 (by omega) (by omega) (by omega)
    have e3 : o ^ p * o ≤ 32768 ^ p * 32768 := Int.mul_le_mul h3 (by omega) (by omega) (by omega)
    rw [U, Int.pow_succ, Int.pow_succ, Int.pow_succ, Int.natCast_add]
    refine ⟨?_, e2, e3⟩
    rw [show ((p : Int) + ((1 : Nat) : Int)) * (32768 ^ p * 32768) = p * 32768 ^ p * 32768 + 32768 ^ p * 32768 by grind]
    omega
theorem big (p : Nat) : Bg ((32768 : Int) ^ p) (15 * p + 1) := Bg.pow (a := 15) (by decide) (by omega)
theorem o_big (h : isP s d m o) (p : Nat) : Bg (o ^ p) (14 * p + 1) := by
  obtain ⟨h1, h2, h3, h4, h5, h6, h7, h8⟩ := h
  exact Bg.pow (a := 14) (by omega) (by omega)
theorem A_big (h : isP s d m o) {p : Nat} (hp : p ≤ 1000) : Bg (A s d m o p) (15 * p + 40) := by
  obtain ⟨h1, h2, h3, h4, h5, h6, h7, h8⟩ := h
  obtain ⟨u1, u2, u3⟩ := U_le h7 h8 h6 p
  have u0 := U_pos h7 (show 0 ≤ o by omega) p
  have k1 := Int.pow_nonneg (n := o + m) (m := p) (by omega)
  rw [A_eq]
  have b1 : Bg (U m o p) (15 * p + 12) := by
    refine Bg.le (y := (p : Int) * 32768 ^ p) (Bg.mul (a := 10) (b := 15 * p + 1) ?_ (big p) (by omega)) u0 u1
    exact Bg.nat (m := 1001) (by omega) (by omega) (by decide)
  have b2 : Bg ((o + m) ^ p) (15 * p + 1) := Bg.le (big p) k1 u2
  have b3 : Bg s 20 := Bg.nat (m := 1000001) (by omega) (by omega) (by decide)
  have b4 : Bg d 20 := Bg.nat (m := 1000001) (by omega) (by omega) (by decide)
  exact Bg.add (b3.mul b2 (n := 15 * p + 21) (by omega)) (b4.mul b1 (n := 15 * p + 32) (by omega)) (by omega) (by omega)
theorem parts_ok (hk : 2 ≤ k) (h : isP s d m o) {p : Nat} (hp : p ≤ 1000) (hq : Q (.tup [.int ((o + m) ^ p), .int (U m o p), .int (o ^ p)]) c) : Wc (PX.run tab k) J_parts_in [pl s d m o, .int p] c Q := by
  have hU := U_eq m o p
  obtain ⟨h1, h2, h3, h4, h5, h6, h7, h8⟩ := h
  purse 9 => fail "enter"
  purse 9 => fail "px"
  refine power_ok (by omega) (by omega) hp ?_
  purse 9 => fail "px"
  refine power_ok (by omega) (by omega) hp ?_
  purse 9 => fail "px"
  refine Wif_s (fun z => ?_) (fun z => ?_)
  · have z := of_decide_eq_true z
    subst z
    rw [U_z] at hq
    purse 9 => fail "px"
  · have z := of_decide_eq_false z
    purse 9 => fail "px"
    rw [hU, Int.mul_ediv_cancel_left _ (by omega)]
    exact hq
theorem held_ok (hk : 3 ≤ k) (h : isP s d m o) {p : Nat} (hp : p ≤ 1000) (hq : Q (.tup [.int (A s d m o p), .int (o ^ p)]) c) : Wc (PX.run tab k) J_held_in [pl s d m o, .int p] c Q := by
  have hA := A_eq s d m o p
  obtain ⟨h1, h2, h3, h4, h5, h6, h7, h8⟩ := id h
  purse 9 => fail "enter"
  purse 9 => fail "px"
  refine parts_ok (by omega) h hp ?_
  purse 9 => fail "px"
  rw [← hA]
  exact hq
/-- the line of balances -/
def ln (s d m o : Int) (j : Nat) : D := .tup [.int (A s d m o j), .int (o ^ j)]
theorem line_ok (hk : 1 ≤ k) (h : isP s d m o) {p : Nat} (hp : p ≤ 1000) (hq : Q (.own ((List.range (p + 1)).map (ln s d m o))) c) : Wc (PX.run tab k) J__law_line [pl s d m o, .int p] c Q := by
  have bA := fun i (hi : i ≤ 1000) => A_big h hi
  have bO := o_big h
  obtain ⟨h1, h2, h3, h4, h5, h6, h7, h8⟩ := id h
  purse 9 => fail "enter"
  refine' WS_tas ?_
  purse 9 => fail "px"
  refine' WS_parO (ef := ?ef) ?hs ?_
  case hs => (intro d; purse 9 => fail "seti")
  purse 9 => fail "px"
  refine ⟨rfl, [some (pl s d m o), some (.int p), some (.int s), some (.int d), some (.int m), some (.int o), some (.own [.tup [.int s, .int 1]]), some (.int 1), none], rfl, ?_⟩
  purse 9 => fail "px"
  refine WFor_rng (fun i e c1 => c1 = c ∧ ∃ x, e = [some (pl s d m o), some (.int p), some (.int s), some (.int d), some (.int m), some (.int o), some (.own ((List.range (i.toNat + 1)).map (ln s d m o))), some (.int (o ^ i.toNat)), x]) ⟨rfl, none, by
    rw [show o ^ Int.toNat 0 = 1 from Int.pow_zero o]
    show _ = [_, _, _, _, _, _, some (D.own [ln s d m o 0]), _, _]
    rw [ln, A, Int.pow_zero]⟩ ?_ ?_
  · rintro i e c1 i0 i1 ⟨rfl, x, rfl⟩
    have b1 := bA i.toNat (by omega)
    have b2 := bO i.toNat
    refine' Ex_mk ?h ?_
    case h => purse 9 => fail "tg"
    purse 9 => fail "px"
    refine' So_ixL its_lst (fun _ => rfl) (by simp) ?_
    rw [List.getElem_range, List.length_range, Nat.add_sub_cancel]
    unfold ln
    purse 9 => fail "px"
    refine ⟨rfl, some (.int i), ?_⟩
    rw [show (i + 1).toNat = i.toNat + 1 by omega, List.range_succ (n := i.toNat + 1), List.map_append]
    show _ = [_, _, _, _, _, _, some (D.own (_ ++ [ln s d m o (i.toNat + 1)])), _, _]
    unfold ln
    rw [A, Int.pow_succ]
  · rintro e c1 ⟨rfl, x, rfl⟩
    purse 9 => fail "px"
    rw [show ((0 : Int) + ((p : Int).toNat : Nat)).toNat = p by omega]
    exact hq
theorem plan_ok (hk : 4 ≤ k) {most of : Int} (h1 : 0 ≤ most ∧ most ≤ 1000000) (h2 : 1 ≤ of ∧ of ≤ 10000) {x y : Int} (hm : 1 ≤ most) (hq : ∀ s d m o x y, isP s d m o → Q (pl s d m o) (some (x, y))) : Wc (PX.run tab k) J__law_plan [.cup, .int most, .int of] (some (x, y)) Q := by
  purse 9 => fail "enter"
  purse 9 => fail "px"
  refine roll_ok (by omega) (by omega) (by omega) fun r x1 y1 r0 r1 => ?_
  purse 9 => fail "px"
  refine' WLc_rngD D.int (fun i => 0 ≤ i ∧ i ≤ 1000000) cupS rfl ?hw ?hz ⟨x1, y1, rfl⟩ (fun a => ?ht) (fun i c i0 i1 hc => ?hs) (fun A c hA hP hc => ?hN)
  case hw => purse 9 => fail "wp"
  case hz => decide
  case ht => purse 9 => fail "tg"
  case hs =>
    obtain ⟨x, y, rfl⟩ := hc
    purse 9 => fail "px"
    refine roll_ok (by omega) (by omega) (by omega) fun r x' y' r0 r1 => ?_
    purse 9 => fail "px"
    refine someI_ok (fun m => 0 ≤ m ∧ m ≤ 1000000) (by omega) (by simp) (by simp) (fun d hd => int_mem (l := [0, 1, r]) hd (by intro i hi; simp only [List.mem_cons, List.not_mem_nil, or_false] at hi; omega)) fun m x2 y2 hm => ?_
    exact ⟨_, rfl, hm, _, _, rfl⟩
  case hN =>
    obtain ⟨x, y, rfl⟩ := hc
    obtain ⟨s, d, rfl⟩ : ∃ s d, A = [s, d] := by
      match A, hA with
      | [s, d], _ => exact ⟨s, d, rfl⟩
    have hs := hP s (by simp)
    have hd := hP d (by simp)
    purse 9 => fail "px"
    refine roll_ok (by omega) (by omega) (by omega) fun r' x' y' r0' r1' => ?_
    purse 9 => fail "px"
    refine someI_ok (fun m => 0 ≤ m ∧ m ≤ 1 + r) (by omega) (by simp) (by simp) (fun d hd => int_mem (l := [0, 1 + r, r']) hd (by intro i hi; simp only [List.mem_cons, List.not_mem_nil, or_false] at hi; omega)) fun m x2 y2 hm => ?_
    purse 9 => fail "px"
    exact hq _ _ _ _ _ _ ⟨hs.1, hs.2, hd.1, hd.2, by omega, by omega, hm.1, hm.2⟩
end

--BODY
section
variable {c : C} {Q : D → C → Prop} {k : Nat} {s d m o : Int}
/-- the first of a thousand periods -/
def Fst (R : Nat → Prop) (v : D) : Prop := (v = .non ∧ ∀ j, j ≤ 1000 → ¬ R j) ∨ ∃ j : Nat, v = .int j ∧ j ≤ 1000 ∧ R j ∧ ∀ i, i < j → ¬ R i
theorem Fst.eq {R R' : Nat → Prop} {v w : D} (h : Fst R v) (h' : Fst R' w) (e : ∀ j, R j ↔ R' j) : v = w := by
  rcases h with ⟨rfl, h1⟩ | ⟨j, rfl, h1, h2, h3⟩ <;> rcases h' with ⟨rfl, g1⟩ | ⟨i, rfl, g1, g2, g3⟩
  · rfl
  · exact absurd ((e i).mpr g2) (h1 i g1)
  · exact absurd ((e j).mp h2) (g1 j h1)
  · have : j = i := by
      by_cases z : j < i
      · exact absurd ((e j).mp h2) (g3 j z)
      · by_cases y : i < j
        · exact absurd ((e i).mpr g2) (h3 i y)
        · omega
    rw [this]
theorem Fst.nown {R : Nat → Prop} {v : D} (h : Fst R v) : nown v := by
  rcases h with ⟨rfl, _⟩ | ⟨_, rfl, _⟩ <;> exact nofun
theorem Fst.plain {R : Nat → Prop} {v : D} (h : Fst R v) : plainD v = true ∧ depD v = 0 := by
  rcases h with ⟨rfl, _⟩ | ⟨_, rfl, _⟩ <;> exact ⟨rfl, rfl⟩
def RC (s d m o t : Int) (j : Nat) : Prop := t * o ^ j ≤ A s d m o j
instance {s d m o t : Int} {j : Nat} : Decidable (RC s d m o t j) := by unfold RC; infer_instance
theorem RC_mono (h : isP s d m o) {t : Int} {j : Nat} (r : RC s d m o t j) : ∀ i, RC s d m o t (j + i)
  | 0 => r
  | i + 1 => by
    have r := RC_mono h r i
    have ap := A_pos h (j + i)
    obtain ⟨h1, h2, h3, h4, h5, h6, h7, h8⟩ := h
    unfold RC at *
    rw [← Nat.add_assoc, A, Int.pow_succ]
    have e1 : (t * o ^ (j + i)) * o ≤ A s d m o (j + i) * o := Int.mul_le_mul_of_nonneg_right r (by omega)
    have e2 : 0 ≤ A s d m o (j + i) * m := Int.mul_nonneg ap h7
    have e3 : 0 ≤ d * (o ^ (j + i) * o) := Int.mul_nonneg h3 (Int.mul_nonneg (Int.le_of_lt (o_pos h5 _)) (by omega))
    rw [Int.mul_add, ← Int.mul_assoc]
    omega
theorem reaches_ok (hk : 4 ≤ k) (h : isP s d m o) {t : Int} (ht : 0 ≤ t ∧ t ≤ 1000000000) {p : Nat} (hp : p ≤ 1000) (hq : Q (.bl (decide (RC s d m o t p))) c) : Wc (PX.run tab k) J_reaches [pl s d m o, .int t, .int p] c Q := by
  purse 9 => fail "enter"
  purse 9 => fail "px"
  refine held_ok (by omega) h hp ?_
  purse 9 => fail "px"
  exact hq
theorem freach_ok (hk : 5 ≤ k) (h : isP s d m o) {t : Int} (ht : 0 ≤ t ∧ t ≤ 1000000000) (hq : ∀ v, Fst (RC s d m o t) v → Q v c) : Wc (PX.run tab k) J_first_reach [pl s d m o, .int t] c Q := by
  purse 9 => fail "enter"
  rename_i kk hkk
  purse 9 => fail "px"
  refine reaches_ok (p := 1000) (by omega) h ht (by omega) ?_
  purse 9 => fail "px"
  refine Wif_s (fun z => ?_) (fun z => ?_)
  · have z := of_decide_eq_true z
    purse 9 => fail "px"
    refine WWh_inv (fun e c1 n => c1 = c ∧ ∃ (lo hi : Nat) (o4 : Option D), e = [some (pl s d m o), some (.int t), some (.int lo), some (.int hi), o4] ∧ lo ≤ hi ∧ hi ≤ 1000 ∧ n = hi - lo ∧ RC s d m o t hi ∧ ∀ i, i < lo → ¬ RC s d m o t i) 100000 1000 _ _ (by omega) ⟨rfl, 0, 1000, none, rfl, by omega, by omega, rfl, z, by omega⟩ ?_
    rintro n e c1 ⟨rfl, lo, hi, o4, rfl, l1, l2, rfl, l3, l4⟩
    purse 9 => fail "px"
    refine Wif_s (fun y => ?_) (fun y => ?_)
    · have y := of_decide_eq_true y
      have e1 : ((lo : Int) + hi) / 2 = (((lo + hi) / 2 : Nat) : Int) := by omega
      purse 9 => fail "px"
      rw [e1]
      purse 9 => fail "px"
      refine reaches_ok (by omega) h ht (by omega) ?_
      purse 9 => fail "px"
      refine Wif_s (fun x => ?_) (fun x => ?_)
      · have x := of_decide_eq_true x
        purse 9 => fail "px"
        exact ⟨_, by omega, rfl, lo, _, _, rfl, by omega, by omega, rfl, x, l4⟩
      · have x := of_decide_eq_false x
        purse 9 => fail "px"
        refine ⟨_, ?_, rfl, (lo + hi) / 2 + 1, hi, some (.int (((lo + hi) / 2 : Nat) : Int)), ?_, by omega, by omega, rfl, l3, ?_⟩
        · omega
        · rw [Int.natCast_add]; rfl
        · intro i hi' hr
          have := RC_mono h hr ((lo + hi) / 2 - i)
          rw [show i + ((lo + hi) / 2 - i) = (lo + hi) / 2 by omega] at this
          exact x this
    · have y := of_decide_eq_false y
      purse 9 => fail "px"
      exact hq _ (.inr ⟨lo, rfl, by omega, by rw [show lo = hi by omega]; exact l3, l4⟩)
  · have z := of_decide_eq_false z
    purse 9 => fail "px"
    refine hq _ (.inl ⟨rfl, fun j hj hr => z ?_⟩)
    have := RC_mono h hr (1000 - j)
    rw [show j + (1000 - j) = 1000 by omega] at this
    exact this
end
section
variable {c : C} {Q : D → C → Prop} {k : Nat} {s d m o : Int}
theorem pto_ok (hk : 7 ≤ k) (h : isP s d m o) {t : Int} (ht : 1 ≤ t ∧ t ≤ 1000000000) (hq : ∀ v, Fst (RC s d m o t) v → Q v c) : Wc (PX.run tab k) J_periods_to [pl s d m o, .int t] c Q := by
  purse 9 => fail "enter"
  purse 9 => fail "px"
  refine nplan_ok (by omega) h ?_
  purse 9 => fail "px"
  refine nnum_ok (by omega) ht ?_
  purse 9 => fail "px"
  exact freach_ok (by omega) h (by omega) hq
theorem A_scale (m o : Int) (b : Int) : ∀ j, A b 0 m o j = b * A 1 0 m o j
  | 0 => by rw [A, A]; omega
  | j + 1 => by rw [A, A, A_scale m o b j]; grind
theorem tto_ok (hk : 7 ≤ k) (h : isP s d m o) {t b : Int} (hb : 1 ≤ b ∧ b ≤ 1000) (ht : b ≤ t ∧ t ≤ 1000) (hq : ∀ v, Fst (fun j => t * o ^ j ≤ b * A 1 0 m o j) v → Q v c) : Wc (PX.run tab k) J_times_to [pl s d m o, .int t, .int b] c Q := by
  have hc : isP b 0 m o := ⟨by omega, by omega, by omega, by omega, h.2.2.2.2⟩
  purse 9 => fail "enter"
  purse 9 => fail "px"
  refine nplan_ok (by omega) h ?_
  purse 9 => fail "px"
  refine nnum_ok (by omega) hb ?_
  purse 9 => fail "px"
  refine nnum_ok (by omega) ht ?_
  purse 9 => fail "px"
  refine freach_ok (by omega) hc (by omega) fun v hv => hq v ?_
  rw [show (fun j => t * o ^ j ≤ b * A 1 0 m o j) = RC b 0 m o t from funext fun j => by unfold RC; rw [A_scale m o b]]
  exact hv
theorem lfirst_ok (hk : 1 ≤ k) (h : isP s d m o) {t b : Int} (ht : 0 ≤ t ∧ t ≤ 1000000000) (hb : 0 ≤ b ∧ b ≤ 1000000000) (hq : ∀ v, Fst (fun j => t * o ^ j ≤ A s d m o j * b) v → Q v c) : Wc (PX.run tab k) J__law_first [.lst ((List.range 1001).map (ln s d m o)), .int t, .int b] c Q := by
  purse 9 => fail "enter"
  purse 9 => fail "px"
  refine' So_enum (A := List.range 1001) (f := ln s d m o) rfl its_lst (fun _ => rfl) ?_
  rw [List.length_range]
  have len : ((rngL 0 1001).zip (List.range 1001)).length = 1001 := by rw [List.length_zip, rngL_len, List.length_range]; rfl
  refine WFor_map (L := (rngL 0 1001).zip (List.range 1001)) (φ := fun z => .tup [.int z.1, ln s d m o z.2]) (fun j e c1 => c1 = c ∧ (∀ i, i < j → ¬ (t * o ^ i ≤ A s d m o i * b)) ∧ ∃ o3 o4 o5, e = [some (.lst ((List.range 1001).map (ln s d m o))), some (.int t), some (.int b), o3, o4, o5]) ⟨rfl, by omega, none, none, none, rfl⟩ ?_ ?_
  · rintro j hj e c1 ⟨rfl, hi, o3, o4, o5, rfl⟩
    rw [len] at hj
    rw [List.getElem_zip, rngL_get, List.getElem_range]
    unfold ln
    refine' Ex_mk ?h ?_
    case h => purse 9 => fail "tg"
    purse 9 => fail "px"
    refine Wif_s (fun z => ?_) (fun z => ?_)
    · have z := of_decide_eq_true z
      purse 9 => fail "px"
      rw [Int.zero_add]
      exact hq _ (.inr ⟨j, rfl, by omega, z, hi⟩)
    · have z := of_decide_eq_false z
      purse 9 => fail "px"
      refine ⟨rfl, fun i hi' => ?_, _, _, _, rfl⟩
      by_cases y : i = j
      · rw [y]; exact z
      · exact hi i (by omega)
  · rintro e c1 ⟨rfl, hi, o3, o4, o5, rfl⟩
    rw [len] at hi
    purse 9 => fail "px"
    exact hq _ (.inl ⟨rfl, fun j hj => hi j (by omega)⟩)
theorem A_near (h : isP s d m o) : ∀ j : Nat, U m o j ≤ j * (2 ^ j * o ^ j) ∧ (o + m) ^ j ≤ 2 ^ j * o ^ j
  | 0 => by rw [U, Int.pow_zero, Int.pow_zero, Int.pow_zero]; omega
  | j + 1 => by
    obtain ⟨h1, h2⟩ := A_near h j
    obtain ⟨g1, g2, h3, h4, h5, h6, h7, h8⟩ := id h
    have u0 := U_pos h7 (show 0 ≤ o by omega) j
    have op := o_pos h5 j
    have p2 : (1 : Int) ≤ 2 ^ j := by have := Int.pow_pos (n := (2 : Int)) (m := j) (by omega); omega
    have k1 := Int.pow_nonneg (n := o + m) (m := j) (by omega)
    have pp : 0 ≤ 2 ^ j * o ^ j := Int.mul_nonneg (by omega) (by omega)
    have e1 : U m o j * (o + m) ≤ (j * (2 ^ j * o ^ j)) * (2 * o) := Int.mul_le_mul h1 (by omega) (by omega) (Int.mul_nonneg (by omega) pp)
    have e2 : (o + m) ^ j * (o + m) ≤ (2 ^ j * o ^ j) * (2 * o) := Int.mul_le_mul h2 (by omega) (by omega) pp
    have e3 : 1 * (o ^ j * o) ≤ (2 ^ j * 2) * (o ^ j * o) := Int.mul_le_mul_of_nonneg_right (by omega) (Int.mul_nonneg (by omega) (by omega))
    rw [U, Int.pow_succ, Int.pow_succ, Int.pow_succ, Int.natCast_add]
    refine ⟨?_, ?_⟩
    · rw [show ((j : Int) + ((1 : Nat) : Int)) * (2 ^ j * 2 * (o ^ j * o)) = (j * (2 ^ j * o ^ j)) * (2 * o) + (2 ^ j * 2) * (o ^ j * o) by grind]
      omega
    · rw [show (2 : Int) ^ j * 2 * (o ^ j * o) = (2 ^ j * o ^ j) * (2 * o) by grind]
      exact e2
theorem A_quot (h : isP s d m o) {j : Nat} (hj : j ≤ 1000) : (A s d m o j).natAbs < 2 ^ 4000 * (o ^ j).natAbs := by
  obtain ⟨e1, e2⟩ := A_near h j
  have ap := A_pos h j
  obtain ⟨h1, h2, h3, h4, h5, h6, h7, h8⟩ := id h
  have op := o_pos h5 j
  have p2 : (1 : Int) ≤ 2 ^ j := by have := Int.pow_pos (n := (2 : Int)) (m := j) (by omega); omega
  have pp : 0 ≤ 2 ^ j * o ^ j := Int.mul_nonneg (by omega) (by omega)
  have a1 : s * (o + m) ^ j ≤ 1000000 * (2 ^ j * o ^ j) := Int.mul_le_mul h2 e2 (Int.pow_nonneg (by omega)) (by omega)
  have a2 : (j : Int) * (2 ^ j * o ^ j) ≤ 1000 * (2 ^ j * o ^ j) := Int.mul_le_mul_of_nonneg_right (by omega) pp
  have a3 : d * U m o j ≤ 1000000 * (1000 * (2 ^ j * o ^ j)) := Int.mul_le_mul h4 (by omega) (U_pos h7 (by omega) j) (by omega)
  have a4 : A s d m o j ≤ 2 ^ 31 * (2 ^ j * o ^ j) := by rw [A_eq]; omega
  have b1 : (A s d m o j).natAbs ≤ (2 ^ 31 * (2 ^ j * o ^ j)).natAbs := by omega
  rw [Int.natAbs_mul, Int.natAbs_mul, Int.natAbs_pow, ← Nat.mul_assoc] at b1
  refine Nat.lt_of_le_of_lt b1 (Nat.mul_lt_mul_of_pos_right ?_ (by omega))
  show 2 ^ 31 * (2 ^ j) < 2 ^ 4000
  rw [← Nat.pow_add]
  exact Nat.pow_lt_pow_right (by omega) (by omega)
end
section
variable {c : C} {Q : D → C → Prop} {k : Nat} {s d m o : Int}
theorem line1_ok (hk : 1 ≤ k) (h : isP s d m o) (hq : Q (.own ((List.range 1001).map (ln s d m o))) c) : Wc (PX.run tab k) J__law_line [pl s d m o, .int 1000] c Q := line_ok (p := 1000) hk h (by omega) hq
theorem right_ok (hk : 11 ≤ k) (h : isP s d m o) {x y : Int} (hq : ∀ x y, Q (.bl true) (some (x, y))) : Wc (PX.run tab k) J__law_right [.cup, pl s d m o] (some (x, y)) Q := by
  have hS : isP 1 0 m o := ⟨by omega, by omega, by omega, by omega, h.2.2.2.2⟩
  obtain ⟨h1, h2, h3, h4, h5, h6, h7, h8⟩ := id h
  purse 9 => fail "enter"
  rename_i kk hkk
  purse 9 => fail "px"
  refine line1_ok (by omega) h ?_
  purse 9 => fail "px"
  refine roll_ok (by omega) (by omega) (by omega) fun r p' q' r0 r1 => ?_
  purse 9 => fail "px"
  refine someI_ok (fun m => 0 ≤ m ∧ m ≤ 1000) (by omega) (by simp) (by simp) (fun d hd => int_mem (l := [0, 1, 7, 1000, r]) hd (by intro i hi; simp only [List.mem_cons, List.not_mem_nil, or_false] at hi; omega)) fun pp p' q' hp => ?_
  obtain ⟨p, rfl⟩ := Int.eq_ofNat_of_zero_le hp.1
  have hp : p ≤ 1000 := by omega
  have op : 0 < o ^ p := o_pos h5 p
  have aq := A_quot h hp
  refine' So_ixM (L := List.range 1001) (φ := ln s d m o) its_lst (fun _ => rfl) (by rw [List.length_range]; omega) ?_
  rw [List.getElem_range, show ((p : Int)).toNat = p from Int.toNat_natCast p]
  unfold ln
  purse 9 => fail "px"
  refine roll_ok (by omega) (by omega) (by omega) fun r2 p' q' r20 r21 => ?_
  purse 9 => fail "px"
  refine So_fdivN op aq ?_
  purse 9 => fail "px"
  refine So_fdivN op aq ?_
  purse 9 => fail "px"
  refine So_fdivN op (by rw [Int.natAbs_neg]; exact aq) ?_
  purse 9 => fail "px"
  refine' WLc_map (L := [1, 1000000000, 1 + r2, A s d m o p / o ^ p, A s d m o p / o ^ p + 1, -(-A s d m o p / o ^ p)]) (φ := D.int) (fun i => decide (1 ≤ i ∧ i ≤ 1000000000)) D.int rfl ?hw ?hz (fun a _ => ?ht) (fun a _ => ?hp) (fun a _ _ => ?hf) ?q
  case hw => purse 9 => fail "wp"
  case hz => show 6 ≤ 16777216; omega
  case ht => purse 9 => fail "tg"
  case hp =>
    purse 9 => fail "px"
    exact ⟨(Bool.decide_and _ _).symm, rfl⟩
  case hf =>
    purse 9 => fail "px"
  case q =>
    generalize hL : ([1, 1000000000, 1 + r2, A s d m o p / o ^ p, A s d m o p / o ^ p + 1, -(-A s d m o p / o ^ p)] : List Int).filter (fun i => decide (1 ≤ i ∧ i ≤ 1000000000)) = L
    have all : ∀ x ∈ L, 1 ≤ x ∧ x ≤ 1000000000 := fun x m => by rw [← hL] at m; exact of_decide_eq_true (List.mem_filter.mp m).2
    purse 9 => fail "px"
    refine WFor_all (fun e c => cupS c ∧ ∃ X o6, (X = .own ((List.range 1001).map (ln s d m o)) ∨ X = .lst ((List.range 1001).map (ln s d m o))) ∧ e = [some .cup, some (pl s d m o), some X, some (.int (A s d m o p)), some (.int (o ^ p)), some (.own _), o6, none, none, none, none, none]) ⟨⟨_, _, rfl⟩, _, _, .inl rfl, rfl⟩ ?_ ?_
    · rintro t e c ht ⟨⟨x, y, rfl⟩, X, o6, hX, rfl⟩
      obtain ⟨t, hm, rfl⟩ := List.mem_map.mp ht
      have ht := all t hm
      rcases hX with rfl | rfl
      all_goals
        refine' Ex_mk ?h ?_
        case h => purse 9 => fail "tg"
        purse 9 => fail "px"
        refine pto_ok (by omega) h ht fun v hv => ?_
        have n1 := hv.nown
        purse 9 => fail "px"
        refine lfirst_ok (by omega) h (by omega) (by omega) fun w hw => ?_
        have n2 := hw.nown
        purse 9 => fail "px"
        refine same_eq (hv.eq hw fun j => by unfold RC; rw [Int.mul_one]) (by rw [hw.plain.2]; omega) hw.plain.1 ?_
        purse 9 => fail "px"
        exact ⟨⟨_, _, rfl⟩, _, _, .inr rfl, rfl⟩
    · rintro e c ⟨⟨x, y, rfl⟩, X, o6, hX, rfl⟩
      have nX : True := trivial
      purse 9 => fail "px"
      refine line1_ok (by omega) hS ?_
      purse 9 => fail "px"
      refine WFor_all (fun e c => cupS c ∧ ∃ Y o9 o10 o11, (Y = .own ((List.range 1001).map (ln 1 0 m o)) ∨ Y = .lst ((List.range 1001).map (ln 1 0 m o))) ∧ e = [some .cup, some (pl s d m o), some X, some (.int (A s d m o p)), some (.int (o ^ p)), some (.own _), o6, none, some Y, o9, o10, o11]) ⟨⟨_, _, rfl⟩, _, _, _, _, .inl rfl, rfl⟩ ?_ ?_
      · rintro t e c ht ⟨⟨x, y, rfl⟩, Y, o9, o10, o11, hY, rfl⟩
        obtain ⟨t, _, rfl⟩ := rngI_mem ht
        rcases hY with rfl | rfl
        all_goals
          refine' Ex_mk ?h ?_
          case h => purse 9 => fail "tg"
          purse 9 => fail "px"
          refine roll_ok (by omega) (by omega) (by omega) fun r3 p' q' r30 r31 => ?_
          purse 9 => fail "px"
          refine someI_ok (fun m => 1 ≤ m ∧ m ≤ 1000) (by omega) (by simp) (by simp) (fun d hd => int_mem (l := [1, 1000, 1 + r3]) hd (by intro i hi; simp only [List.mem_cons, List.not_mem_nil, or_false] at hi; omega)) fun u p' q' hu => ?_
          purse 9 => fail "px"
          refine roll_ok (by omega) (by omega) (by omega) fun r4 p' q' r40 r41 => ?_
          purse 9 => fail "px"
          refine tto_ok (by omega) h hu (by omega) fun v hv => ?_
          have n1 := hv.nown
          purse 9 => fail "px"
          refine lfirst_ok (by omega) hS (by omega) (by omega) fun w hw => ?_
          have n2 := hw.nown
          purse 9 => fail "px"
          refine same_eq (hv.eq hw fun j => by rw [Int.mul_comm u]) (by rw [hw.plain.2]; omega) hw.plain.1 ?_
          purse 9 => fail "px"
          exact ⟨⟨_, _, rfl⟩, _, _, _, _, .inr rfl, rfl⟩
      · rintro e c ⟨⟨x, y, rfl⟩, Y, o9, o10, o11, hY, rfl⟩
        purse 9 => fail "px"
        exact hq _ _
end
/-! ### the law -/
def fixedE : PX.Env := match evSs tab (PX.run tab 14) (lawRest.take 15) [some (.scr []), some .cup, some (pl 100 10 1 10), none, none, none, none, none, none, none] (some (0, 0)) with
  | .ok .nx e _ => e
  | _ => []
def slotE (i : Nat) : Option D := (fixedE[i]?).join
theorem fixed_ok (ns : List Int) (p q : Int) : evSs tab (PX.run tab 14) (lawRest.take 15) [some (.scr ns), some .cup, some (pl 100 10 1 10), none, none, none, none, none, none, none] (some (p, q)) = .ok .nx [some (.scr ns), some .cup, some (pl 100 10 1 10), slotE 3, slotE 4, slotE 5, slotE 6, slotE 7, slotE 8, slotE 9] (some (p, q)) := by
  kernel_rfl
theorem law_tree (ns : List Int) (h : ns.length ≤ 63) : ∃ (e : PX.Env) (p q : Int) (e' : PX.Env) (c' : C), evS tab (PX.run tab 14) lawFirst (entry lawFn [.scr ns]) none = .ok .nx e none ∧ e[1]? = some (some (.own [.int p, .int q])) ∧ evSs tab (PX.run tab 14) lawRest (e.set 1 (some .cup)) (some (p, q)) = .ok (.rt (.bl true)) e' c' := by
  refine' law_of ?he ?_
  case he => purse 9 => fail "en"
  refine' WS_parO (ef := ?ef) ?hs ?_
  case hs => (intro d; purse 9 => fail "seti")
  purse 9 => fail "px"
  refine cup_ok (by omega) h fun p q => ?_
  purse 9 => fail "px"
  refine ⟨rfl, _, rfl, ?_⟩
  refine ⟨rfl, p, q, _, rfl, set1, ?_⟩
  refine WSs_part 15 (fixed_ok ns p q) ?_
  generalize slotE 3 = s3
  generalize slotE 4 = s4
  generalize slotE 6 = s6
  generalize slotE 7 = s7
  generalize slotE 8 = s8
  generalize slotE 9 = s9
  generalize slotE 5 = s5
  show WSs tab (PX.run tab 14) [.fr (.n 9) (.rng1 (.int 8)) _, .ret (.bl true)] _ _ _ _ _ _
  purse 9 => fail "px"
  refine WFor_rng (fun i e c => cupS c ∧ ∃ s9, e = [some (.scr ns), some .cup, some (pl 100 10 1 10), s3, s4, s5, s6, s7, s8, s9]) ⟨⟨_, _, rfl⟩, _, rfl⟩ ?_ ?_
  · rintro i e c i0 i1 ⟨⟨p, q, rfl⟩, s9, rfl⟩
    refine' Ex_mk ?h ?_
    case h => purse 9 => fail "tg"
    purse 9 => fail "px"
    refine someI_ok (fun m => 1 ≤ m ∧ m ≤ 1000000) (by omega) (by simp) (by simp) (fun d hd => int_mem (l := [9, 1000, 1000000]) hd (by decide)) fun m1 p1 q1 hm1 => ?_
    purse 9 => fail "px"
    refine someI_ok (fun m => 1 ≤ m ∧ m ≤ 10000) (by omega) (by simp) (by simp) (fun d hd => int_mem (l := [1, 6, 100, 10000]) hd (by decide)) fun m2 p2 q2 hm2 => ?_
    purse 9 => fail "px"
    refine plan_ok (by omega) (by omega) hm2 hm1.1 fun s d m o p3 q3 hp => ?_
    purse 9 => fail "px"
    refine right_ok (by omega) hp fun p5 q5 => ?_
    purse 9 => fail "px"
    exact ⟨⟨_, _, rfl⟩, _, rfl⟩
  · rintro e c ⟨⟨p, q, rfl⟩, s9, rfl⟩
    purse 9 => fail "px"
    rfl
end PXk20

namespace PXk20
open PySem PX
theorem law_good : ∀ ns : List Int, ns.length ≤ 63 → (∀ z ∈ ns, Builtin.Int.intBits z ≤ 1048576) → LawGood tab 14 lawFn 1 lawFirst lawRest ns := fun ns h _ => law_tree ns h
theorem c0 : defChk ck f0 (names 0) noFlq (top 5) = true := by decide +kernel
theorem c1 : defChk ck f1 (names 1) noFlq (top 6) = true := by decide +kernel
theorem c2 : defChk ck f2 (names 2) noFlq (top 7) = true := by decide +kernel
theorem c3 : defChk ck f3 (names 3) noFlq (top 13) = true := by decide +kernel
theorem c4 : defChk ck f4 (names 4) noFlq (top 14) = true := by decide +kernel
theorem c5 : defChk ck f5 (names 5) noFlq (top 15) = true := by decide +kernel
theorem c6 : defChk ck f6 (names 6) noFlq (top 16) = true := by decide +kernel
theorem c7 : defChk ck f7 (names 7) noFlq (top 17) = true := by decide +kernel
theorem c8 : defChk ck f8 (names 8) noFlq (top 18) = true := by decide +kernel
theorem c9 : defChk ck f9 (names 9) noFlq (top 19) = true := by decide +kernel
theorem c10 : defChk ck f10 (names 10) noFlq (top 20) = true := by decide +kernel
theorem c11 : defChk ck f11 (names 11) noFlq (top 21) = true := by decide +kernel
theorem c12 : defChk ck f12 (names 12) noFlq (top 22) = true := by decide +kernel
theorem c13 : defChk ck f13 (names 13) noFlq (top 24) = true := by decide +kernel
theorem c14 : defChk ck f14 (names 14) noFlq (top 25) = true := by decide +kernel
theorem c15 : defChk ck f15 (names 15) noFlq (top 26) = true := by decide +kernel
theorem c16 : defChk ck f16 (names 16) noFlq (top 27) = true := by decide +kernel
theorem c17 : defChk ck f17 (names 17) noFlq (top 28) = true := by decide +kernel
theorem c18 : defChk ck f18 (names 18) noFlq (top 29) = true := by decide +kernel
theorem c19 : defChk ck f19 (names 19) noFlq (top 31) = true := by decide +kernel
theorem c20 : defChk ck f20 (names 20) noFlq (top 32) = true := by decide +kernel
def lawBody : List Stmt := L2.defBody (top 33)
theorem chkLaw : (C8.scC lawN ["script"] (L2.defScope (top 33)) && (match lawBody with | p0 :: ps => okS { ck with N := lawN, flq := (fltB { ck with N := lawN } fls) } lawFirst (L2.defScope (top 33)) p0 && okSs { ck with N := lawN, flq := (fltB { ck with N := lawN } fls) } lawRest (L2.defScope (top 33)) ps | [] => false)) = true := by decide +kernel

set_option maxHeartbeats 4000000 in
theorem all_mk {l : PySem.W.OpenLaw} {w : World} {K : PySem.W.Frag} {h : Heap} {mg : Str → Option Value} {fa : Addr} (X : K.In h) (G : h.Ns mainGlobals mg) (hfa : mg "law" = some (.ref fa))
    {a0 : Addr} {cd0 oc0 kV0 dc0 pm0 ct0 : Value} {od0 an0 : Option Addr} {sl0 : Array (Option Value)}
    {a1 : Addr} {cd1 oc1 kV1 dc1 pm1 ct1 : Value} {od1 an1 : Option Addr} {sl1 : Array (Option Value)}
    {a2 : Addr} {cd2 oc2 kV2 dc2 pm2 ct2 : Value} {od2 an2 : Option Addr} {sl2 : Array (Option Value)}
    {a3 : Addr} {cd3 oc3 kV3 dc3 pm3 ct3 : Value} {od3 an3 : Option Addr} {sl3 : Array (Option Value)}
    {a4 : Addr} {cd4 oc4 kV4 dc4 pm4 ct4 : Value} {od4 an4 : Option Addr} {sl4 : Array (Option Value)}
    {a5 : Addr} {cd5 oc5 kV5 dc5 pm5 ct5 : Value} {od5 an5 : Option Addr} {sl5 : Array (Option Value)}
    {a6 : Addr} {cd6 oc6 kV6 dc6 pm6 ct6 : Value} {od6 an6 : Option Addr} {sl6 : Array (Option Value)}
    {a7 : Addr} {cd7 oc7 kV7 dc7 pm7 ct7 : Value} {od7 an7 : Option Addr} {sl7 : Array (Option Value)}
    {a8 : Addr} {cd8 oc8 kV8 dc8 pm8 ct8 : Value} {od8 an8 : Option Addr} {sl8 : Array (Option Value)}
    {a9 : Addr} {cd9 oc9 kV9 dc9 pm9 ct9 : Value} {od9 an9 : Option Addr} {sl9 : Array (Option Value)}
    {a10 : Addr} {cd10 oc10 kV10 dc10 pm10 ct10 : Value} {od10 an10 : Option Addr} {sl10 : Array (Option Value)}
    {a11 : Addr} {cd11 oc11 kV11 dc11 pm11 ct11 : Value} {od11 an11 : Option Addr} {sl11 : Array (Option Value)}
    {a12 : Addr} {cd12 oc12 kV12 dc12 pm12 ct12 : Value} {od12 an12 : Option Addr} {sl12 : Array (Option Value)}
    {a13 : Addr} {cd13 oc13 kV13 dc13 pm13 ct13 : Value} {od13 an13 : Option Addr} {sl13 : Array (Option Value)}
    {a14 : Addr} {cd14 oc14 kV14 dc14 pm14 ct14 : Value} {od14 an14 : Option Addr} {sl14 : Array (Option Value)}
    {a15 : Addr} {cd15 oc15 kV15 dc15 pm15 ct15 : Value} {od15 an15 : Option Addr} {sl15 : Array (Option Value)}
    {a16 : Addr} {cd16 oc16 kV16 dc16 pm16 ct16 : Value} {od16 an16 : Option Addr} {sl16 : Array (Option Value)}
    {a17 : Addr} {cd17 oc17 kV17 dc17 pm17 ct17 : Value} {od17 an17 : Option Addr} {sl17 : Array (Option Value)}
    {a18 : Addr} {cd18 oc18 kV18 dc18 pm18 ct18 : Value} {od18 an18 : Option Addr} {sl18 : Array (Option Value)}
    {a19 : Addr} {cd19 oc19 kV19 dc19 pm19 ct19 : Value} {od19 an19 : Option Addr} {sl19 : Array (Option Value)}
    {a20 : Addr} {cd20 oc20 kV20 dc20 pm20 ct20 : Value} {od20 an20 : Option Addr} {sl20 : Array (Option Value)}
    {aL : Addr} {ocL kVL dcL pmL ctL : Value} {odL anL : Option Addr} {slL : Array (Option Value)}
    {mL PL : Addr} {owL : Value} {oxL : Option Addr} {vsL : Array Value} {oyL : Array (Option Value)}
    {aT0 : Addr} {cdT0 ocT0 kVT0 dcT0 pmT0 ctT0 : Value} {odT0 anT0 : Option Addr} {slT0 : Array (Option Value)}
    {tk0 : Tok}
    {tk1 : Tok}
    {tk2 : Tok}
    {tk3 : Tok}
    {C0 : Addr}
    {C1 : Addr}
    {C2 : Addr}
    {ts : List Addr}
    (n0 : PySem.W.nsIn K mainGlobals "is_whole" = some (some (.ref a0)))
    (l0 : K.lookup a0 = some ⟨oc0, od0, .func (PySem.W.fnOf "is_whole" "is_whole" (L2.defArgs (top 5)) (L2.defBody (top 5)) (L2.defScope (top 5)) .none kV0 dc0 pm0 an0 cd0 ct0), sl0⟩)
    (c0 : PySem.W.codeIn K cd0 "is_whole" = true)
    (k0 : PySem.W.keepIn K (.ref a0) = true)
    (n1 : PySem.W.nsIn K mainGlobals "fits_whole" = some (some (.ref a1)))
    (l1 : K.lookup a1 = some ⟨oc1, od1, .func (PySem.W.fnOf "fits_whole" "fits_whole" (L2.defArgs (top 6)) (L2.defBody (top 6)) (L2.defScope (top 6)) .none kV1 dc1 pm1 an1 cd1 ct1), sl1⟩)
    (c1 : PySem.W.codeIn K cd1 "fits_whole" = true)
    (k1 : PySem.W.keepIn K (.ref a1) = true)
    (n2 : PySem.W.nsIn K mainGlobals "is_tuple_of" = some (some (.ref a2)))
    (l2 : K.lookup a2 = some ⟨oc2, od2, .func (PySem.W.fnOf "is_tuple_of" "is_tuple_of" (L2.defArgs (top 7)) (L2.defBody (top 7)) (L2.defScope (top 7)) .none kV2 dc2 pm2 an2 cd2 ct2), sl2⟩)
    (c2 : PySem.W.codeIn K cd2 "is_tuple_of" = true)
    (k2 : PySem.W.keepIn K (.ref a2) = true)
    (n3 : PySem.W.nsIn K mainGlobals "fits_plan" = some (some (.ref a3)))
    (l3 : K.lookup a3 = some ⟨oc3, od3, .func (PySem.W.fnOf "fits_plan" "fits_plan" (L2.defArgs (top 13)) (L2.defBody (top 13)) (L2.defScope (top 13)) .none kV3 dc3 pm3 an3 cd3 ct3), sl3⟩)
    (c3 : PySem.W.codeIn K cd3 "fits_plan" = true)
    (k3 : PySem.W.keepIn K (.ref a3) = true)
    (n4 : PySem.W.nsIn K mainGlobals "need_plan" = some (some (.ref a4)))
    (l4 : K.lookup a4 = some ⟨oc4, od4, .func (PySem.W.fnOf "need_plan" "need_plan" (L2.defArgs (top 14)) (L2.defBody (top 14)) (L2.defScope (top 14)) .none kV4 dc4 pm4 an4 cd4 ct4), sl4⟩)
    (c4 : PySem.W.codeIn K cd4 "need_plan" = true)
    (k4 : PySem.W.keepIn K (.ref a4) = true)
    (n5 : PySem.W.nsIn K mainGlobals "need_number" = some (some (.ref a5)))
    (l5 : K.lookup a5 = some ⟨oc5, od5, .func (PySem.W.fnOf "need_number" "need_number" (L2.defArgs (top 15)) (L2.defBody (top 15)) (L2.defScope (top 15)) .none kV5 dc5 pm5 an5 cd5 ct5), sl5⟩)
    (c5 : PySem.W.codeIn K cd5 "need_number" = true)
    (k5 : PySem.W.keepIn K (.ref a5) = true)
    (n6 : PySem.W.nsIn K mainGlobals "power_of" = some (some (.ref a6)))
    (l6 : K.lookup a6 = some ⟨oc6, od6, .func (PySem.W.fnOf "power_of" "power_of" (L2.defArgs (top 16)) (L2.defBody (top 16)) (L2.defScope (top 16)) .none kV6 dc6 pm6 an6 cd6 ct6), sl6⟩)
    (c6 : PySem.W.codeIn K cd6 "power_of" = true)
    (k6 : PySem.W.keepIn K (.ref a6) = true)
    (n7 : PySem.W.nsIn K mainGlobals "parts_in" = some (some (.ref a7)))
    (l7 : K.lookup a7 = some ⟨oc7, od7, .func (PySem.W.fnOf "parts_in" "parts_in" (L2.defArgs (top 17)) (L2.defBody (top 17)) (L2.defScope (top 17)) .none kV7 dc7 pm7 an7 cd7 ct7), sl7⟩)
    (c7 : PySem.W.codeIn K cd7 "parts_in" = true)
    (k7 : PySem.W.keepIn K (.ref a7) = true)
    (n8 : PySem.W.nsIn K mainGlobals "held_in" = some (some (.ref a8)))
    (l8 : K.lookup a8 = some ⟨oc8, od8, .func (PySem.W.fnOf "held_in" "held_in" (L2.defArgs (top 18)) (L2.defBody (top 18)) (L2.defScope (top 18)) .none kV8 dc8 pm8 an8 cd8 ct8), sl8⟩)
    (c8 : PySem.W.codeIn K cd8 "held_in" = true)
    (k8 : PySem.W.keepIn K (.ref a8) = true)
    (n9 : PySem.W.nsIn K mainGlobals "reaches" = some (some (.ref a9)))
    (l9 : K.lookup a9 = some ⟨oc9, od9, .func (PySem.W.fnOf "reaches" "reaches" (L2.defArgs (top 19)) (L2.defBody (top 19)) (L2.defScope (top 19)) .none kV9 dc9 pm9 an9 cd9 ct9), sl9⟩)
    (c9 : PySem.W.codeIn K cd9 "reaches" = true)
    (k9 : PySem.W.keepIn K (.ref a9) = true)
    (n10 : PySem.W.nsIn K mainGlobals "first_reach" = some (some (.ref a10)))
    (l10 : K.lookup a10 = some ⟨oc10, od10, .func (PySem.W.fnOf "first_reach" "first_reach" (L2.defArgs (top 20)) (L2.defBody (top 20)) (L2.defScope (top 20)) .none kV10 dc10 pm10 an10 cd10 ct10), sl10⟩)
    (c10 : PySem.W.codeIn K cd10 "first_reach" = true)
    (k10 : PySem.W.keepIn K (.ref a10) = true)
    (n11 : PySem.W.nsIn K mainGlobals "periods_to" = some (some (.ref a11)))
    (l11 : K.lookup a11 = some ⟨oc11, od11, .func (PySem.W.fnOf "periods_to" "periods_to" (L2.defArgs (top 21)) (L2.defBody (top 21)) (L2.defScope (top 21)) .none kV11 dc11 pm11 an11 cd11 ct11), sl11⟩)
    (c11 : PySem.W.codeIn K cd11 "periods_to" = true)
    (k11 : PySem.W.keepIn K (.ref a11) = true)
    (n12 : PySem.W.nsIn K mainGlobals "times_to" = some (some (.ref a12)))
    (l12 : K.lookup a12 = some ⟨oc12, od12, .func (PySem.W.fnOf "times_to" "times_to" (L2.defArgs (top 22)) (L2.defBody (top 22)) (L2.defScope (top 22)) .none kV12 dc12 pm12 an12 cd12 ct12), sl12⟩)
    (c12 : PySem.W.codeIn K cd12 "times_to" = true)
    (k12 : PySem.W.keepIn K (.ref a12) = true)
    (n13 : PySem.W.nsIn K mainGlobals "_law_cup" = some (some (.ref a13)))
    (l13 : K.lookup a13 = some ⟨oc13, od13, .func (PySem.W.fnOf "_law_cup" "_law_cup" (L2.defArgs (top 24)) (L2.defBody (top 24)) (L2.defScope (top 24)) .none kV13 dc13 pm13 an13 cd13 ct13), sl13⟩)
    (c13 : PySem.W.codeIn K cd13 "_law_cup" = true)
    (k13 : PySem.W.keepIn K (.ref a13) = true)
    (n14 : PySem.W.nsIn K mainGlobals "_law_roll" = some (some (.ref a14)))
    (l14 : K.lookup a14 = some ⟨oc14, od14, .func (PySem.W.fnOf "_law_roll" "_law_roll" (L2.defArgs (top 25)) (L2.defBody (top 25)) (L2.defScope (top 25)) .none kV14 dc14 pm14 an14 cd14 ct14), sl14⟩)
    (c14 : PySem.W.codeIn K cd14 "_law_roll" = true)
    (k14 : PySem.W.keepIn K (.ref a14) = true)
    (n15 : PySem.W.nsIn K mainGlobals "_law_some" = some (some (.ref a15)))
    (l15 : K.lookup a15 = some ⟨oc15, od15, .func (PySem.W.fnOf "_law_some" "_law_some" (L2.defArgs (top 26)) (L2.defBody (top 26)) (L2.defScope (top 26)) .none kV15 dc15 pm15 an15 cd15 ct15), sl15⟩)
    (c15 : PySem.W.codeIn K cd15 "_law_some" = true)
    (k15 : PySem.W.keepIn K (.ref a15) = true)
    (n16 : PySem.W.nsIn K mainGlobals "_law_same" = some (some (.ref a16)))
    (l16 : K.lookup a16 = some ⟨oc16, od16, .func (PySem.W.fnOf "_law_same" "_law_same" (L2.defArgs (top 27)) (L2.defBody (top 27)) (L2.defScope (top 27)) .none kV16 dc16 pm16 an16 cd16 ct16), sl16⟩)
    (c16 : PySem.W.codeIn K cd16 "_law_same" = true)
    (k16 : PySem.W.keepIn K (.ref a16) = true)
    (n17 : PySem.W.nsIn K mainGlobals "_law_plan" = some (some (.ref a17)))
    (l17 : K.lookup a17 = some ⟨oc17, od17, .func (PySem.W.fnOf "_law_plan" "_law_plan" (L2.defArgs (top 28)) (L2.defBody (top 28)) (L2.defScope (top 28)) .none kV17 dc17 pm17 an17 cd17 ct17), sl17⟩)
    (c17 : PySem.W.codeIn K cd17 "_law_plan" = true)
    (k17 : PySem.W.keepIn K (.ref a17) = true)
    (n18 : PySem.W.nsIn K mainGlobals "_law_line" = some (some (.ref a18)))
    (l18 : K.lookup a18 = some ⟨oc18, od18, .func (PySem.W.fnOf "_law_line" "_law_line" (L2.defArgs (top 29)) (L2.defBody (top 29)) (L2.defScope (top 29)) .none kV18 dc18 pm18 an18 cd18 ct18), sl18⟩)
    (c18 : PySem.W.codeIn K cd18 "_law_line" = true)
    (k18 : PySem.W.keepIn K (.ref a18) = true)
    (n19 : PySem.W.nsIn K mainGlobals "_law_first" = some (some (.ref a19)))
    (l19 : K.lookup a19 = some ⟨oc19, od19, .func (PySem.W.fnOf "_law_first" "_law_first" (L2.defArgs (top 31)) (L2.defBody (top 31)) (L2.defScope (top 31)) .none kV19 dc19 pm19 an19 cd19 ct19), sl19⟩)
    (c19 : PySem.W.codeIn K cd19 "_law_first" = true)
    (k19 : PySem.W.keepIn K (.ref a19) = true)
    (n20 : PySem.W.nsIn K mainGlobals "_law_right" = some (some (.ref a20)))
    (l20 : K.lookup a20 = some ⟨oc20, od20, .func (PySem.W.fnOf "_law_right" "_law_right" (L2.defArgs (top 32)) (L2.defBody (top 32)) (L2.defScope (top 32)) .none kV20 dc20 pm20 an20 cd20 ct20), sl20⟩)
    (c20 : PySem.W.codeIn K cd20 "_law_right" = true)
    (k20 : PySem.W.keepIn K (.ref a20) = true)
    (nL : PySem.W.nsIn K mainGlobals "law" = some (some (.ref aL)))
    (lL : K.lookup aL = some ⟨ocL, odL, .func (PySem.W.fnOf "law" "law" (L2.defArgs (top 33)) (L2.defBody (top 33)) (L2.defScope (top 33)) .none kVL dcL pmL anL (.ref mL) ctL), slL⟩)
    (cL : PySem.W.codeIn K (.ref mL) "law" = true)
    (kL : PySem.W.keepIn K (.ref aL) = true)
    (nT0 : PySem.W.nsIn K mainGlobals "_law_fault" = some (some (.ref aT0)))
    (lT0 : K.lookup aT0 = some ⟨ocT0, odT0, .func (PySem.W.fnOf "_law_fault" "_law_fault" (L2.defArgs (top 30)) (L2.defBody (top 30)) (L2.defScope (top 30)) .none kVT0 dcT0 pmT0 anT0 cdT0 ctT0), slT0⟩)
    (cT0 : PySem.W.codeIn K cdT0 "_law_fault" = true)
    (kT0 : PySem.W.keepIn K (.ref aT0) = true)
    (v0 : PySem.W.nsIn K mainGlobals "GREAT" = some (some (.int 1000000 tk0)))
    (v1 : PySem.W.nsIn K mainGlobals "GOAL" = some (some (.int 1000000000 tk1)))
    (v2 : PySem.W.nsIn K mainGlobals "RATE" = some (some (.int 10000 tk2)))
    (v3 : PySem.W.nsIn K mainGlobals "FAR" = some (some (.int 1000 tk3)))
    (e0 : PySem.W.nsIn K mainGlobals "MintError" = some (some (.ref C0)))
    (x0 : PySem.W.excIn K C0 [.type "ValueError", .type "Exception", .type "BaseException", .type "object"] "ValueError.__new__" = true)
    (kE0 : PySem.W.keepIn K (.ref C0) = true)
    (sE0 : PySem.W.subIn K (.ref C0) (.type "BaseException") = some true)
    (tE0 : PySem.W.typeIn K (.ref C0) = some (.type "type"))
    (e1 : PySem.W.nsIn K mainGlobals "InvalidCosts" = some (some (.ref C1)))
    (x1 : PySem.W.excIn K C1 [.type "ValueError", .type "Exception", .type "BaseException", .type "object"] "ValueError.__new__" = true)
    (kE1 : PySem.W.keepIn K (.ref C1) = true)
    (sE1 : PySem.W.subIn K (.ref C1) (.type "BaseException") = some true)
    (tE1 : PySem.W.typeIn K (.ref C1) = some (.type "type"))
    (e2 : PySem.W.nsIn K mainGlobals "InvalidNumber" = some (some (.ref C2)))
    (x2 : PySem.W.excIn K C2 [.type "ValueError", .type "Exception", .type "BaseException", .type "object"] "ValueError.__new__" = true)
    (kE2 : PySem.W.keepIn K (.ref C2) = true)
    (sE2 : PySem.W.subIn K (.ref C2) (.type "BaseException") = some true)
    (tE2 : PySem.W.typeIn K (.ref C2) = some (.type "type"))
    (ga0 : PySem.W.findIn K (.ref C0) "__getattribute__" = some (some (.builtin "BaseException.__getattribute__")))
    (gg0 : PySem.W.findIn K (.ref C0) "__getattr__" = some none)
    (hd0 : PySem.W.hasDictIn K C0 = true)
    (hc0 : PySem.W.findIn K (.ref C0) "__class__" = some (some (.builtin "object.__class__")))
    (mo0 : PySem.W.mroIn K C0 (.type "object") = some true)
    (kv0 : PySem.W.kitOne K (.ref C0) (.type "ValueError") = some true)
    (ga1 : PySem.W.findIn K (.ref C1) "__getattribute__" = some (some (.builtin "BaseException.__getattribute__")))
    (gg1 : PySem.W.findIn K (.ref C1) "__getattr__" = some none)
    (hd1 : PySem.W.hasDictIn K C1 = true)
    (hc1 : PySem.W.findIn K (.ref C1) "__class__" = some (some (.builtin "object.__class__")))
    (mo1 : PySem.W.mroIn K C1 (.type "object") = some true)
    (kv1 : PySem.W.kitOne K (.ref C1) (.type "ValueError") = some true)
    (ga2 : PySem.W.findIn K (.ref C2) "__getattribute__" = some (some (.builtin "BaseException.__getattribute__")))
    (gg2 : PySem.W.findIn K (.ref C2) "__getattr__" = some none)
    (hd2 : PySem.W.hasDictIn K C2 = true)
    (hc2 : PySem.W.findIn K (.ref C2) "__class__" = some (some (.builtin "object.__class__")))
    (mo2 : PySem.W.mroIn K C2 (.type "object") = some true)
    (kv2 : PySem.W.kitOne K (.ref C2) (.type "ValueError") = some true)
    (oc1 : PySem.W.specialIn K (.builtin "object.__class__") "__get__" = some (some (.builtin "getset_descriptor.__get__")))
    (oc2 : PySem.W.takesIn K (.builtin "object.__class__") = some true)
    (bve : PySem.W.nsIn K mainGlobals "ValueError" = some none)
    (xm0_0 : PySem.W.exmOne K (.ref C0) (.ref C0) = some true)
    (xm1_0 : PySem.W.exmOne K (.ref C1) (.ref C0) = some true)
    (xm2_0 : PySem.W.exmOne K (.ref C2) (.ref C0) = some true)
    (kk0_1 : PySem.W.kitOne K (.ref C0) (.ref C1) = some false)
    (kk0_2 : PySem.W.kitOne K (.ref C0) (.ref C2) = some false)
    (kk1_1 : PySem.W.kitOne K (.ref C1) (.ref C1) = some true)
    (kk1_2 : PySem.W.kitOne K (.ref C1) (.ref C2) = some false)
    (kk2_1 : PySem.W.kitOne K (.ref C2) (.ref C1) = some false)
    (kk2_2 : PySem.W.kitOne K (.ref C2) (.ref C2) = some true)
    (b_len : PySem.W.nsIn K mainGlobals "len" = some none)
    (b_abs : PySem.W.nsIn K mainGlobals "abs" = some none)
    (b_int : PySem.W.nsIn K mainGlobals "int" = some none)
    (b_sum : PySem.W.nsIn K mainGlobals "sum" = some none)
    (b_all : PySem.W.nsIn K mainGlobals "all" = some none)
    (b_any : PySem.W.nsIn K mainGlobals "any" = some none)
    (b_tuple : PySem.W.nsIn K mainGlobals "tuple" = some none)
    (b_list : PySem.W.nsIn K mainGlobals "list" = some none)
    (b_sorted : PySem.W.nsIn K mainGlobals "sorted" = some none)
    (b_min : PySem.W.nsIn K mainGlobals "min" = some none)
    (b_max : PySem.W.nsIn K mainGlobals "max" = some none)
    (b_isinstance : PySem.W.nsIn K mainGlobals "isinstance" = some none)
    (b_bool : PySem.W.nsIn K mainGlobals "bool" = some none)
    (b_str : PySem.W.nsIn K mainGlobals "str" = some none)
    (b_range : PySem.W.nsIn K mainGlobals "range" = some none)
    (b_zip : PySem.W.nsIn K mainGlobals "zip" = some none)
    (b_enumerate : PySem.W.nsIn K mainGlobals "enumerate" = some none)
    (b_set : PySem.W.nsIn K mainGlobals "set" = some none)
    (b_dict : PySem.W.nsIn K mainGlobals "dict" = some none)
    (oL : K.lookup mL = some ⟨owL, oxL, .fields vsL, oyL⟩)
    (rL : vsL[11]? = some (.ref PL))
    (hL : PySem.W.codeHdIn K mL PL = true)
    (zL : K.lookup PL = none)
    (yL : PL ∈ ts)
    (zz : ∀ P ∈ ts, h.get? P = some (PySem.W.tabObj #[]))
    (good : ∀ ns : List Int, ns.length ≤ 63 → (∀ z ∈ ns, Builtin.Int.intBits z ≤ 1048576) → LawGood tab 14 lawFn 1 lawFirst lawRest ns) :
    LamX.LawAtS l w K (L2N.CX l.prog w) (3 * 14 + 3) 63 "script" mg fa h := by
  have e := hfa.symm.trans (PySem.W.mg_of X G nL)
  cases e
  refine ⟨PySem.W.fnOf "law" "law" (L2.defArgs (top 33)) (L2.defBody (top 33)) (L2.defScope (top 33)) .none kVL dcL pmL anL (.ref mL) ctL, [(mL, PL)], spLaw (gs K [a0, a1, a2, a3, a4, a5, a6, a7, a8, a9, a10, a11, a12, a13, a14, a15, a16, a17, a18, a19, a20] [.ref C0, .ref C1, .ref C2] [(PL, ("law" ++ ".<locals>.") ++ "<lambda>")]) 63, ?_, ?_, ?_, fun s u => .of_eq rfl, ?_, fun base KB GB TB => ?_⟩
  · intro p hp
    simp only [List.mem_cons, List.not_mem_nil, or_false] at hp
    subst hp
    · exact zz PL yL
  · intro p hp
    simp only [List.mem_cons, List.not_mem_nil, or_false] at hp
    subst hp
    · exact zL
  · intro p hp
    simp only [List.mem_cons, List.not_mem_nil, or_false] at hp
    subst hp
    · exact PySem.W.codeHd_of_K X hL
  · intro H b ns h1 h2 h3 h4
    refine ⟨b, ns, rfl, h4, h1, h2, fun p hp => ?_, fun _ => rfl⟩
    simp only [gs, List.mem_cons, List.not_mem_nil, or_false] at hp
    subst hp
    · exact LamX.TabS.nil (h3 (mL, PL) (by simp))
  have hbl : ∀ x ∈ bnames, mg x = none := fun x hx => by
    simp only [bnames, List.mem_cons, List.not_mem_nil, or_false] at hx
    rcases hx with rfl | rfl | rfl | rfl | rfl | rfl | rfl | rfl | rfl | rfl | rfl | rfl | rfl | rfl | rfl | rfl | rfl | rfl | rfl
    · exact PySem.W.mg_none_of X G b_len
    · exact PySem.W.mg_none_of X G b_abs
    · exact PySem.W.mg_none_of X G b_int
    · exact PySem.W.mg_none_of X G b_sum
    · exact PySem.W.mg_none_of X G b_all
    · exact PySem.W.mg_none_of X G b_any
    · exact PySem.W.mg_none_of X G b_tuple
    · exact PySem.W.mg_none_of X G b_list
    · exact PySem.W.mg_none_of X G b_sorted
    · exact PySem.W.mg_none_of X G b_min
    · exact PySem.W.mg_none_of X G b_max
    · exact PySem.W.mg_none_of X G b_isinstance
    · exact PySem.W.mg_none_of X G b_bool
    · exact PySem.W.mg_none_of X G b_str
    · exact PySem.W.mg_none_of X G b_range
    · exact PySem.W.mg_none_of X G b_zip
    · exact PySem.W.mg_none_of X G b_enumerate
    · exact PySem.W.mg_none_of X G b_set
    · exact PySem.W.mg_none_of X G b_dict
  have M : Mdl K mg base (gs K [a0, a1, a2, a3, a4, a5, a6, a7, a8, a9, a10, a11, a12, a13, a14, a15, a16, a17, a18, a19, a20] [.ref C0, .ref C1, .ref C2] [(PL, ("law" ++ ".<locals>.") ++ "<lambda>")]) ck fls tab names := by
    refine ⟨rfl, fun j x hj => ?_, fun j a hj => fnv_of (ln := fns) rfl j a hj, fun j x hj => ?_, hbl, fun j x hj => ?_, fun j x hj => ?_⟩
    · match j, hj with
      | 0, hj => cases hj; exact def_goal (a := a0) (f := f0) rfl (PySem.W.mg_of X G n0) rfl l0 c0 k0 rfl PXk20.c0 (fun _ _ _ _ _ _ us hl => match us, hl with | [_], _ => rfl) (.inl rfl)
      | 1, hj => cases hj; exact def_goal (a := a1) (f := f1) rfl (PySem.W.mg_of X G n1) rfl l1 c1 k1 rfl PXk20.c1 (fun _ _ _ _ _ _ us hl => match us, hl with | [_, _, _], _ => rfl) (.inl rfl)
      | 2, hj => cases hj; exact def_goal (a := a2) (f := f2) rfl (PySem.W.mg_of X G n2) rfl l2 c2 k2 rfl PXk20.c2 (fun _ _ _ _ _ _ us hl => match us, hl with | [_, _, _], _ => rfl) (.inl rfl)
      | 3, hj => cases hj; exact def_goal (a := a3) (f := f3) rfl (PySem.W.mg_of X G n3) rfl l3 c3 k3 rfl PXk20.c3 (fun _ _ _ _ _ _ us hl => match us, hl with | [_], _ => rfl) (.inl rfl)
      | 4, hj => cases hj; exact def_goal (a := a4) (f := f4) rfl (PySem.W.mg_of X G n4) rfl l4 c4 k4 rfl PXk20.c4 (fun _ _ _ _ _ _ us hl => match us, hl with | [_], _ => rfl) (.inl rfl)
      | 5, hj => cases hj; exact def_goal (a := a5) (f := f5) rfl (PySem.W.mg_of X G n5) rfl l5 c5 k5 rfl PXk20.c5 (fun _ _ _ _ _ _ us hl => match us, hl with | [_, _, _], _ => rfl) (.inl rfl)
      | 6, hj => cases hj; exact def_goal (a := a6) (f := f6) rfl (PySem.W.mg_of X G n6) rfl l6 c6 k6 rfl PXk20.c6 (fun _ _ _ _ _ _ us hl => match us, hl with | [_, _], _ => rfl) (.inl rfl)
      | 7, hj => cases hj; exact def_goal (a := a7) (f := f7) rfl (PySem.W.mg_of X G n7) rfl l7 c7 k7 rfl PXk20.c7 (fun _ _ _ _ _ _ us hl => match us, hl with | [_, _], _ => rfl) (.inl rfl)
      | 8, hj => cases hj; exact def_goal (a := a8) (f := f8) rfl (PySem.W.mg_of X G n8) rfl l8 c8 k8 rfl PXk20.c8 (fun _ _ _ _ _ _ us hl => match us, hl with | [_, _], _ => rfl) (.inl rfl)
      | 9, hj => cases hj; exact def_goal (a := a9) (f := f9) rfl (PySem.W.mg_of X G n9) rfl l9 c9 k9 rfl PXk20.c9 (fun _ _ _ _ _ _ us hl => match us, hl with | [_, _, _], _ => rfl) (.inl rfl)
      | 10, hj => cases hj; exact def_goal (a := a10) (f := f10) rfl (PySem.W.mg_of X G n10) rfl l10 c10 k10 rfl PXk20.c10 (fun _ _ _ _ _ _ us hl => match us, hl with | [_, _], _ => rfl) (.inl rfl)
      | 11, hj => cases hj; exact def_goal (a := a11) (f := f11) rfl (PySem.W.mg_of X G n11) rfl l11 c11 k11 rfl PXk20.c11 (fun _ _ _ _ _ _ us hl => match us, hl with | [_, _], _ => rfl) (.inl rfl)
      | 12, hj => cases hj; exact def_goal (a := a12) (f := f12) rfl (PySem.W.mg_of X G n12) rfl l12 c12 k12 rfl PXk20.c12 (fun _ _ _ _ _ _ us hl => match us, hl with | [_, _, _], _ => rfl) (.inl rfl)
      | 13, hj => cases hj; exact def_goal (a := a13) (f := f13) rfl (PySem.W.mg_of X G n13) rfl l13 c13 k13 rfl PXk20.c13 (fun _ _ _ _ _ _ us hl => match us, hl with | [_], _ => rfl) (.inl rfl)
      | 14, hj => cases hj; exact def_goal (a := a14) (f := f14) rfl (PySem.W.mg_of X G n14) rfl l14 c14 k14 rfl PXk20.c14 (fun _ _ _ _ _ _ us hl => match us, hl with | [_, _], _ => rfl) (.inl rfl)
      | 15, hj => cases hj; exact def_goal (a := a15) (f := f15) rfl (PySem.W.mg_of X G n15) rfl l15 c15 k15 rfl PXk20.c15 (fun _ _ _ _ _ _ us hl => match us, hl with | [_, _], _ => rfl) (.inl rfl)
      | 16, hj => cases hj; exact def_goal (a := a16) (f := f16) rfl (PySem.W.mg_of X G n16) rfl l16 c16 k16 rfl PXk20.c16 (fun _ _ _ _ _ _ us hl => match us, hl with | [_, _], _ => rfl) (.inl rfl)
      | 17, hj => cases hj; exact def_goal (a := a17) (f := f17) rfl (PySem.W.mg_of X G n17) rfl l17 c17 k17 rfl PXk20.c17 (fun _ _ _ _ _ _ us hl => match us, hl with | [_, _, _], _ => rfl) (.inl rfl)
      | 18, hj => cases hj; exact def_goal (a := a18) (f := f18) rfl (PySem.W.mg_of X G n18) rfl l18 c18 k18 rfl PXk20.c18 (fun _ _ _ _ _ _ us hl => match us, hl with | [_, _], _ => rfl) (.inl rfl)
      | 19, hj => cases hj; exact def_goal (a := a19) (f := f19) rfl (PySem.W.mg_of X G n19) rfl l19 c19 k19 rfl PXk20.c19 (fun _ _ _ _ _ _ us hl => match us, hl with | [_, _, _], _ => rfl) (.inl rfl)
      | 20, hj => cases hj; exact def_goal (a := a20) (f := f20) rfl (PySem.W.mg_of X G n20) rfl l20 c20 k20 rfl PXk20.c20 (fun _ _ _ _ _ _ us hl => match us, hl with | [_, _], _ => rfl) (.inl rfl)
      | j + 21, hj => exact absurd hj (by simp [ck, fns, cns, ens, fls])
    · match j, hj with
      | 0, hj => cases hj; exact ⟨_, .int 1000000, .int 1000000, PySem.W.mg_of X G v0, ⟨_, rfl⟩, rfl, fun _ _ _ => .int _, nown_int⟩
      | 1, hj => cases hj; exact ⟨_, .int 1000000000, .int 1000000000, PySem.W.mg_of X G v1, ⟨_, rfl⟩, rfl, fun _ _ _ => .int _, nown_int⟩
      | 2, hj => cases hj; exact ⟨_, .int 10000, .int 10000, PySem.W.mg_of X G v2, ⟨_, rfl⟩, rfl, fun _ _ _ => .int _, nown_int⟩
      | 3, hj => cases hj; exact ⟨_, .int 1000, .int 1000, PySem.W.mg_of X G v3, ⟨_, rfl⟩, rfl, fun _ _ _ => .int _, nown_int⟩
      | j + 4, hj => exact absurd hj (by simp [ck, fns, cns, ens, fls])
    · match j, hj with
      | 0, hj => cases hj; exact ⟨C0, _, _, _, _, PySem.F.excBase_ValueError, x0, PySem.W.mg_of X G e0, kE0, sE0, tE0, rfl⟩
      | 1, hj => cases hj; exact ⟨C1, _, _, _, _, PySem.F.excBase_ValueError, x1, PySem.W.mg_of X G e1, kE1, sE1, tE1, rfl⟩
      | 2, hj => cases hj; exact ⟨C2, _, _, _, _, PySem.F.excBase_ValueError, x2, PySem.W.mg_of X G e2, kE2, sE2, tE2, rfl⟩
      | j + 3, hj => exact absurd hj (by simp [ck, fns, cns, ens, fls])
    · match j, hj with
      | 0, hj => cases hj; exact ⟨_, rfl, fltA (CS := C0) (js := jsT0) (is := isT0) (kit := kitT0) (Ng := ngT0) (k := { ck with N := ngT0 }) (kinds := kindsT0) t0T0 t1T0 t2T0 t3T0 rfl (fun _ _ _ _ _ _ us hl => match us, hl with | [_], _ => rfl) (PySem.W.mg_of X G nT0) kT0 lT0 cT0 (PySem.W.mg_of X G e0) ⟨fun j hj => by
          simp only [jsT0, List.mem_cons, List.not_mem_nil, or_false] at hj
          rcases hj with rfl | rfl | rfl
          · exact ⟨C0, rfl, ⟨ga0, gg0, sE0, hd0, hc0, oc1, oc2, mo0⟩, xm0_0, kv0, fun i hi => by
            simp only [isT0, List.mem_cons, List.not_mem_nil, or_false] at hi
            rcases hi with rfl | rfl
            · exact ⟨C1, rfl, kk0_1⟩
            · exact ⟨C2, rfl, kk0_2⟩⟩
          · exact ⟨C1, rfl, ⟨ga1, gg1, sE1, hd1, hc1, oc1, oc2, mo1⟩, xm1_0, kv1, fun i hi => by
            simp only [isT0, List.mem_cons, List.not_mem_nil, or_false] at hi
            rcases hi with rfl | rfl
            · exact ⟨C1, rfl, kk1_1⟩
            · exact ⟨C2, rfl, kk1_2⟩⟩
          · exact ⟨C2, rfl, ⟨ga2, gg2, sE2, hd2, hc2, oc1, oc2, mo2⟩, xm2_0, kv2, fun i hi => by
            simp only [isT0, List.mem_cons, List.not_mem_nil, or_false] at hi
            rcases hi with rfl | rfl
            · exact ⟨C1, rfl, kk2_1⟩
            · exact ⟨C2, rfl, kk2_2⟩⟩⟩ rfl (fun i hi => by
          simp only [isT0, List.mem_cons, List.not_mem_nil, or_false] at hi
          rcases hi with rfl | rfl
          · exact ⟨C1, _, rfl, PySem.W.mg_of X G e1, rfl⟩
          · exact ⟨C2, _, rfl, PySem.W.mg_of X G e2, rfl⟩) hbl (PySem.W.mg_none_of X G bve)⟩
      | j + 1, hj => exact absurd hj (by simp [ck, fns, cns, ens, fls])
  have cL2 := chkLaw
  rw [Bool.and_eq_true] at cL2
  obtain ⟨s1, s2⟩ := cL2
  split at s2
  · rename_i p0 ps e0
    rw [Bool.and_eq_true] at s2
    exact law_fn M lL cL (C8.fnScope_by s1) rfl e0 s2.1 s2.2 (.inr ⟨rfl, mL, PL, TB (mL, PL) (by simp), rfl, by simp [gs], by simp [gs]⟩) good
  · cases s2
end PXk20
open PySem PySem.W PyProof.Rows
set_option maxRecDepth 100000 in
set_option maxHeartbeats 0 in
theorem PySem.Challenge.cw_coinmaster_k20_whole_periods_to_a_goal_holds : PySem.Challenge.rw_coinmaster_k20_whole_periods_to_a_goal.Holds := by
  w_on; o_law; k_head; (case hw => w_witness2)
  k_fill
  refine PX.walk_px (l := PySem.Challenge.rw_coinmaster_k20_whole_periods_to_a_goal) (n := 63) (m := 14) rfl (by decide) rfl ⟨rfl, by decide, by decide⟩ (fun w h Y => km_in_of Y) ?F
  case F =>
    intro w mg fa h Y KX G hmg
    refine' PXk20.all_mk KX G hmg ?n0 ?l0 ?c0 ?k0 ?n1 ?l1 ?c1 ?k1 ?n2 ?l2 ?c2 ?k2 ?n3 ?l3 ?c3 ?k3 ?n4 ?l4 ?c4 ?k4 ?n5 ?l5 ?c5 ?k5 ?n6 ?l6 ?c6 ?k6 ?n7 ?l7 ?c7 ?k7 ?n8 ?l8 ?c8 ?k8 ?n9 ?l9 ?c9 ?k9 ?n10 ?l10 ?c10 ?k10 ?n11 ?l11 ?c11 ?k11 ?n12 ?l12 ?c12 ?k12 ?n13 ?l13 ?c13 ?k13 ?n14 ?l14 ?c14 ?k14 ?n15 ?l15 ?c15 ?k15 ?n16 ?l16 ?c16 ?k16 ?n17 ?l17 ?c17 ?k17 ?n18 ?l18 ?c18 ?k18 ?n19 ?l19 ?c19 ?k19 ?n20 ?l20 ?c20 ?k20 ?nL ?lL ?cL ?kL ?nT0 ?lT0 ?cT0 ?kT0 ?v0 ?v1 ?v2 ?v3 ?e0 ?x0 ?kE0 ?sE0 ?tE0 ?e1 ?x1 ?kE1 ?sE1 ?tE1 ?e2 ?x2 ?kE2 ?sE2 ?tE2 ?ga0 ?gg0 ?hd0 ?hc0 ?mo0 ?kv0 ?ga1 ?gg1 ?hd1 ?hc1 ?mo1 ?kv1 ?ga2 ?gg2 ?hd2 ?hc2 ?mo2 ?kv2 ?oc1 ?oc2 ?bve ?xm0_0 ?xm1_0 ?xm2_0 ?kk0_1 ?kk0_2 ?kk1_1 ?kk1_2 ?kk2_1 ?kk2_2 ?b_len ?b_abs ?b_int ?b_sum ?b_all ?b_any ?b_tuple ?b_list ?b_sorted ?b_min ?b_max ?b_isinstance ?b_bool ?b_str ?b_range ?b_zip ?b_enumerate ?b_set ?b_dict ?oL ?rL ?hL ?zL ?yL (km_tabs_of Y) PXk20.law_good
    (case n0 => k_is)
    (case l0 => k_is)
    (case c0 => k_is)
    (case k0 => k_is)
    (case n1 => k_is)
    (case l1 => k_is)
    (case c1 => k_is)
    (case k1 => k_is)
    (case n2 => k_is)
    (case l2 => k_is)
    (case c2 => k_is)
    (case k2 => k_is)
    (case n3 => k_is)
    (case l3 => k_is)
    (case c3 => k_is)
    (case k3 => k_is)
    (case n4 => k_is)
    (case l4 => k_is)
    (case c4 => k_is)
    (case k4 => k_is)
    (case n5 => k_is)
    (case l5 => k_is)
    (case c5 => k_is)
    (case k5 => k_is)
    (case n6 => k_is)
    (case l6 => k_is)
    (case c6 => k_is)
    (case k6 => k_is)
    (case n7 => k_is)
    (case l7 => k_is)
    (case c7 => k_is)
    (case k7 => k_is)
    (case n8 => k_is)
    (case l8 => k_is)
    (case c8 => k_is)
    (case k8 => k_is)
    (case n9 => k_is)
    (case l9 => k_is)
    (case c9 => k_is)
    (case k9 => k_is)
    (case n10 => k_is)
    (case l10 => k_is)
    (case c10 => k_is)
    (case k10 => k_is)
    (case n11 => k_is)
    (case l11 => k_is)
    (case c11 => k_is)
    (case k11 => k_is)
    (case n12 => k_is)
    (case l12 => k_is)
    (case c12 => k_is)
    (case k12 => k_is)
    (case n13 => k_is)
    (case l13 => k_is)
    (case c13 => k_is)
    (case k13 => k_is)
    (case n14 => k_is)
    (case l14 => k_is)
    (case c14 => k_is)
    (case k14 => k_is)
    (case n15 => k_is)
    (case l15 => k_is)
    (case c15 => k_is)
    (case k15 => k_is)
    (case n16 => k_is)
    (case l16 => k_is)
    (case c16 => k_is)
    (case k16 => k_is)
    (case n17 => k_is)
    (case l17 => k_is)
    (case c17 => k_is)
    (case k17 => k_is)
    (case n18 => k_is)
    (case l18 => k_is)
    (case c18 => k_is)
    (case k18 => k_is)
    (case n19 => k_is)
    (case l19 => k_is)
    (case c19 => k_is)
    (case k19 => k_is)
    (case n20 => k_is)
    (case l20 => k_is)
    (case c20 => k_is)
    (case k20 => k_is)
    (case nL => k_is)
    (case lL => k_is)
    (case cL => k_is)
    (case kL => k_is)
    (case nT0 => k_is)
    (case lT0 => k_is)
    (case cT0 => k_is)
    (case kT0 => k_is)
    (case v0 => k_is)
    (case v1 => k_is)
    (case v2 => k_is)
    (case v3 => k_is)
    (case e0 => k_is)
    (case x0 => k_exc)
    (case kE0 => k_is)
    (case sE0 => k_is)
    (case tE0 => k_is)
    (case e1 => k_is)
    (case x1 => k_exc)
    (case kE1 => k_is)
    (case sE1 => k_is)
    (case tE1 => k_is)
    (case e2 => k_is)
    (case x2 => k_exc)
    (case kE2 => k_is)
    (case sE2 => k_is)
    (case tE2 => k_is)
    (case ga0 => k_is)
    (case gg0 => k_is)
    (case hd0 => k_is)
    (case hc0 => k_is)
    (case mo0 => k_is)
    (case kv0 => kernel_rfl)
    (case ga1 => k_is)
    (case gg1 => k_is)
    (case hd1 => k_is)
    (case hc1 => k_is)
    (case mo1 => k_is)
    (case kv1 => kernel_rfl)
    (case ga2 => k_is)
    (case gg2 => k_is)
    (case hd2 => k_is)
    (case hc2 => k_is)
    (case mo2 => k_is)
    (case kv2 => kernel_rfl)
    (case oc1 => k_is)
    (case oc2 => k_is)
    (case bve => k_is)
    (case xm0_0 => kernel_rfl)
    (case xm1_0 => kernel_rfl)
    (case xm2_0 => kernel_rfl)
    (case kk0_1 => kernel_rfl)
    (case kk0_2 => kernel_rfl)
    (case kk1_1 => kernel_rfl)
    (case kk1_2 => kernel_rfl)
    (case kk2_1 => kernel_rfl)
    (case kk2_2 => kernel_rfl)
    (case b_len => k_is)
    (case b_abs => k_is)
    (case b_int => k_is)
    (case b_sum => k_is)
    (case b_all => k_is)
    (case b_any => k_is)
    (case b_tuple => k_is)
    (case b_list => k_is)
    (case b_sorted => k_is)
    (case b_min => k_is)
    (case b_max => k_is)
    (case b_isinstance => k_is)
    (case b_bool => k_is)
    (case b_str => k_is)
    (case b_range => k_is)
    (case b_zip => k_is)
    (case b_enumerate => k_is)
    (case b_set => k_is)
    (case b_dict => k_is)
    (case oL => k_is)
    (case rL => rfl)
    (case hL => kernel_rfl)
    (case zL => kernel_rfl)
    (case yL => simp)
#print axioms PySem.Challenge.cw_coinmaster_k20_whole_periods_to_a_goal_holds
