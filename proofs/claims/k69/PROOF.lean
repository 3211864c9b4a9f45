import PyProof.Rows.All
import Wide.All
import OpenK.AllK
import Wide.FinOn
import HandS.ForMost
import HandS.IsInst
import HandS.Conv
import HandS.Defaults
import HandS.Exc
import HandS.Style
import HandS.ExcOwn
import HandS.CallSlots
import HandS.WordsExc
import HandS.SetBool
import HandS.SetFor
import HandS.SetKeys
import HandS.Strs
import HandS.SortInts
import HandS.Iter
import HandS.Head0
import HandS.Head1
import HandS.Head2
import HandS.HeadEnd
import HandS.HeadHook1
import HandS.HeadHook2
import KE.KStateDown
import PySem.Challenge.RW_markedregions_k69_whole_sizes_by_all_set
set_option Elab.async false
set_option linter.all false
set_option maxRecDepth 100000
set_option maxHeartbeats 4000000
/-! Ev0: a small evaluator over trees: values, expressions, statements. -/
namespace Ev
open PySem L2

/-! ### values -/
/-- a frozen value: a tree without identity -/
inductive T where
  | non | bl (b : Bool) | int (i : Int) | str (x : Str) | ty (n : String) | gl (g : Nat)
  | tup (xs : List T) | lst (xs : List T) | dct (ks vs : List T) | set (xs : List T) | ins (c : Nat) (fs : List Nat) (vs : List T) | scr (is : List Int)
/-- an owned value: frozen leaves below mutable nodes that nobody else names -/
inductive W where
  | val (t : T) | lst (ws : List W) | set (ts : List T)
mutual
def W.fz : W → T
  | .val t => t
  | .lst ws => .lst (fzs ws)
  | .set ts => .set ts
def fzs : List W → List T
  | [] => []
  | w :: r => w.fz :: fzs r
end
abbrev Env := List (Option W)
inductive R (α : Type) where
  | ok (a : α) (env : Env) | exc (c : Nat) (t : T) (env : Env) | no
def R.bind {α β : Type} (r : R α) (k : α → Env → R β) : R β := match r with
  | .ok a env => k a env
  | .exc c t env => .exc c t env
  | .no => .no
def R.of {α : Type} (o : Option α) (env : Env) : R α := match o with
  | some a => .ok a env
  | none => .no
inductive F where
  | nx | rt (w : W) | bk | ct
inductive CR where
  | ok (w : W) (outs : List (Option W)) | exc (c : Nat) (t : T) (outs : List (Option W)) | no
abbrev Calls := Nat → List W → CR

/-! ### operations on trees -/
mutual
def T.pd : T → Option PyData
  | .non => some .none
  | .bl b => some (.bool b)
  | .int i => some (.int i)
  | .str x => some (.str x)
  | .tup xs => (pds xs).map .tuple
  | .lst xs => (pds xs).map .list
  | .ty _ => none
  | .gl _ => none
  | .dct _ _ => none
  | .set _ => none
  | .ins _ _ _ => none
  | .scr _ => none
def pds : List T → Option (List PyData)
  | [] => some []
  | t :: r => match t.pd, pds r with
    | some d, some ds => some (d :: ds)
    | _, _ => none
end
def eqT (a b : T) : Option Bool := match a.pd, b.pd with
  | some x, some y => if SeqAt.shaped x && SeqAt.shaped y then some (PyData.eqv x y) else none
  | _, _ => none
def mulOk (i j : Int) : Bool := (decide (-18446744073709551616 < i) && decide (i < 18446744073709551616)) || (decide (-18446744073709551616 < j) && decide (j < 18446744073709551616))
def opInt : Operator → Int → Int → Option Int
  | .Add, i, j => some (i + j)
  | .Sub, i, j => some (i - j)
  | .Mult, i, j => if mulOk i j then some (i * j) else none
  | .FloorDiv, i, j => if decide (0 < j) && decide (j < 1073741824) then some (i / j) else none
  | .Mod, i, j => if decide (0 < j) then some (i % j) else none
  | .Pow, i, j => if decide (0 ≤ j) && decide (j ≤ 1000000) && decide (i.natAbs < 18446744073709551616) then some (i ^ j.toNat) else none
  | _, _, _ => none
def opT (o : Operator) (a b : T) : Option W := match a, b with
  | .int i, .int j => (opInt o i j).map fun k => .val (.int k)
  | .lst xs, .lst ys => (match o with
    | .Add => if decide (xs.length + ys.length ≤ 16777216) then some (.lst ((xs ++ ys).map .val)) else none
    | _ => none)
  | _, _ => none
def cmpInt : CmpOp → Int → Int → Option Bool
  | .Lt, i, j => some (decide (i < j))
  | .LtE, i, j => some (decide (i ≤ j))
  | .Gt, i, j => some (decide (j < i))
  | .GtE, i, j => some (decide (j ≤ i))
  | _, _, _ => none
def cmpI2 (o : CmpOp) : T → T → Option Bool
  | .int i, .int j => cmpInt o i j
  | _, _ => none
def T.isN : T → Bool
  | .non => true
  | _ => false
def cmpT (o : CmpOp) (a b : T) : Option Bool := match o with
  | .Eq => eqT a b
  | .NotEq => (eqT a b).map (!·)
  | .Is => if b.isN then some a.isN else none
  | .IsNot => if b.isN then some (!a.isN) else none
  | o => cmpI2 o a b
def T.tru : T → Option Bool
  | .non => some false
  | .bl b => some b
  | .int i => some (i != 0)
  | .lst xs => some (!xs.isEmpty)
  | .tup xs => some (!xs.isEmpty)
  | _ => none
def T.ints : List T → Option (List Int)
  | [] => some []
  | .int i :: r => (T.ints r).map (i :: ·)
  | _ :: _ => none
def T.bls : List T → Option (List Bool)
  | [] => some []
  | .bl b :: r => (T.bls r).map (b :: ·)
  | _ :: _ => none
def insI (i : Int) : List Int → List Int
  | [] => [i]
  | j :: r => if i ≤ j then i :: j :: r else j :: insI i r
def sortI : List Int → List Int
  | [] => []
  | i :: r => insI i (sortI r)
def maxI : Int → List Int → Int
  | m, [] => m
  | m, i :: r => maxI (if m < i then i else m) r
def minI : Int → List Int → Int
  | m, [] => m
  | m, i :: r => minI (if i < m then i else m) r
def sumI : List Int → Int
  | [] => 0
  | i :: r => i + sumI r
/-- the members of a set of ints, each once -/
def addI (acc : List Int) (i : Int) : List Int := if acc.contains i then acc else acc ++ [i]
def dedI (acc : List Int) : List Int → List Int
  | [] => acc
  | i :: r => dedI (addI acc i) r
inductive Bi where
  | len | list | tuple | sorted | min | max | int | sum | all | any
  deriving DecidableEq
def lenT : List T → Option W
  | [.lst xs] => some (.val (.int xs.length))
  | [.tup xs] => some (.val (.int xs.length))
  | [.scr is] => some (.val (.int is.length))
  | [.str x] => if decide (x.length ≤ 16777216) then some (.val (.int x.length)) else none
  | _ => none
def listT : List T → Option W
  | [.lst xs] => some (.lst (xs.map .val))
  | [.tup xs] => some (.lst (xs.map .val))
  | _ => none
def tupleT : List T → Option W
  | [.lst xs] => some (.val (.tup xs))
  | [.tup xs] => some (.val (.tup xs))
  | _ => none
def sortedT : List T → Option W
  | [.lst xs] => (T.ints xs).map fun is => .lst ((sortI is).map fun i => .val (.int i))
  | _ => none
def minT : List T → Option W
  | [.int i, .int j] => some (.val (.int (if j < i then j else i)))
  | [.lst xs] => (T.ints xs).bind fun is => match is with
    | i :: r => some (.val (.int (minI i r)))
    | [] => none
  | _ => none
def maxT : List T → Option W
  | [.int i, .int j] => some (.val (.int (if j > i then j else i)))
  | [.lst xs] => (T.ints xs).bind fun is => match is with
    | i :: r => some (.val (.int (maxI i r)))
    | [] => none
  | _ => none
def intT : List T → Option W
  | [.int i] => some (.val (.int i))
  | [.bl b] => some (.val (.int (if b then 1 else 0)))
  | _ => none
def sumT : List T → Option W
  | [.lst xs] => (T.ints xs).map fun is => .val (.int (sumI is))
  | _ => none
def allT : List T → Option W
  | [.lst xs] => (T.bls xs).map fun bs => .val (.bl (bs.all id))
  | _ => none
def anyT : List T → Option W
  | [.lst xs] => (T.bls xs).map fun bs => .val (.bl (bs.any id))
  | _ => none
def biT : Bi → List T → Option W
  | .len => lenT
  | .list => listT
  | .tuple => tupleT
  | .sorted => sortedT
  | .min => minT
  | .max => maxT
  | .int => intT
  | .sum => sumT
  | .all => allT
  | .any => anyT
def ixT (a i : T) : Option T := match a, i with
  | .lst xs, .int i => atI xs i
  | .tup xs, .int i => atI xs i
  | .scr is, .int i => (atI is i).map .int
  | _, _ => none
/-- the type of a tree, for isinstance -/
inductive Ty where
  | int | bool | str | non | list | tuple
  deriving DecidableEq
def tyT : T → Option Ty
  | .int _ => some .int
  | .bl _ => some .bool
  | .str _ => some .str
  | .non => some .non
  | .lst _ => some .list
  | .tup _ => some .tuple
  | _ => none
def Ty.sub : Ty → Ty → Bool
  | .bool, .int => true
  | a, b => decide (a = b)
def isiT (cs : List Ty) (t : T) : Option Bool := (tyT t).map fun y => cs.any y.sub
def cutT (xs : List T) (lo hi : Option Int) : List T := (xs.drop (HT.sIx xs.length 0 lo)).take (HT.sIx xs.length xs.length hi - HT.sIx xs.length 0 lo)
def slT (a : T) (lo hi : Option Int) : Option W := match a with
  | .lst xs => some (.lst ((cutT xs lo hi).map .val))
  | _ => none

/-! ### the language -/
mutual
inductive E where
  | int (i : Int) | bl (b : Bool) | non | str (x : Str)
  | cst (g : Nat)
  | rd (i : Nat)
  | rdx (i : Nat) (e : E)
  | op (o : Operator) (a b : E) | neg (a : E)
  | cmp (o : CmpOp) (a b : E) | chn (o o' : CmpOp) (a b c : E)
  | one (a : E) | and (a b : E) | or (a b : E) | not (a : E) | ife (c : Tt) (a b : E)
  | tup (es : Es) | lst (es : Es)
  | ix (a i : E) | sl (a : E) (lo hi : Eo)
  | bi (b : Bi) (es : Es)
  | isi (a : E) (c : Ty) | isis (a : E) (cs : List Ty)
  | call (f : Nat) (as : As) (ds : List T)
  | callk (f : Nat) (as : As) (ks : As)
  | lc (own : List Nat) (tg : Tg) (it : It) (cs : Tts) (e : E)
  | lenS (s : Se) | srtS (s : Se)
  | lrng (a : E) (b : Eo) | lrng3 (a b c : E)
  | rev (a : E)
inductive Se where
  | sc (own : List Nat) (tg : Tg) (it : It) (cs : Tts) (e : E)
  | of (e : E)
inductive Es where
  | nil | cons (e : E) (es : Es)
inductive Eo where
  | no | so (e : E)
inductive Tt where
  | v (e : E) | one (a : Tt) | and (a b : Tt) | or (a b : Tt) | not (a : Tt)
inductive Tts where
  | nil | cons (c : Tt) (cs : Tts)
inductive Tg where
  | var (i : Nat) | tup (is : List Nat)
inductive It where
  | e (e : E) | rng (a : E) (b : Eo)
inductive As where
  | nil | cons (e : E) (as : As) | io (i : Nat) (as : As)
end
mutual
inductive S where
  | asg (i : Nat) (e : E) | asgT (is : List Nat) (e : E) | par (is : List Nat) (es : Es)
  | setx (i : Nat) (k e : E)
  | app (i : Nat) (e : E)
  | expr (e : E)
  | ret (e : E) | retv (i : Nat) | retn
  | ife (c : Tt) (a b : Ss)
  | for_ (tg : Tg) (it : It) (b : Ss)
  | pass | never
inductive Ss where
  | nil | cons (s : S) (ss : Ss)
end

/-! ### the evaluator -/
def wipeE (env : Env) : List Nat → Env
  | [] => env
  | i :: r => (wipeE env r).set i none
/-- the slots of own names hold nothing that is owned -/
def hidOk (env : Env) (own : List Nat) : Bool := own.all fun i => match env[i]? with
  | some (some (.val _)) => true
  | some none => true
  | _ => false
/-- the slots of own names as they were -/
def backE (old env : Env) : List Nat → Env
  | [] => env
  | i :: r => (backE old env r).set i ((old[i]?).getD none)
def tgE : Tg → T → Env → Option Env
  | .var i, t, env => if i < env.length then some (env.set i (some (.val t))) else none
  | .tup is, .tup ts, env => if is.length = ts.length then some ((is.zip ts).foldl (fun e p => e.set p.1 (some (.val p.2))) env) else none
  | .tup _, _, _ => none
def tgIn : Tg → List Nat → Bool
  | .var i, own => own.contains i
  | .tup is, own => is.all own.contains
/-- the loop of a comprehension -/
def lcL (tg : Tg) (own : List Nat) (test : Env → R Bool) (elt : Env → R W) : List T → List W → Env → R (List W)
  | [], acc, env => .ok acc env
  | t :: r, acc, env => match tgE tg t env with
    | none => .no
    | some env1 => (test env1).bind fun b env2 => match b with
      | true => (elt env2).bind fun w env3 => if decide (acc.length < 16777216) && hidOk env3 own then lcL tg own test elt r (acc ++ [w]) (wipeE env3 own) else .no
      | false => if hidOk env2 own then lcL tg own test elt r acc (wipeE env2 own) else .no
/-- the loop of a set comprehension -/
def scL (tg : Tg) (own : List Nat) (test : Env → R Bool) (elt : Env → R W) : List T → List Int → Env → R (List Int)
  | [], acc, env => .ok acc env
  | t :: r, acc, env => match tgE tg t env with
    | none => .no
    | some env1 => (test env1).bind fun b env2 => match b with
      | true => (elt env2).bind fun w env3 => match w.fz with
        | .int k => if decide (acc.length < 4095) && hidOk env3 own then scL tg own test elt r (addI acc k) (wipeE env3 own) else .no
        | _ => .no
      | false => if hidOk env2 own then scL tg own test elt r acc (wipeE env2 own) else .no
def forL (tg : Tg) (body : Env → R F) : List T → Env → R F
  | [], env => .ok .nx env
  | t :: r, env => match tgE tg t env with
    | none => .no
    | some env1 => (body env1).bind fun f env2 => match f with
      | .nx => forL tg body r env2
      | .ct => forL tg body r env2
      | .bk => .ok .nx env2
      | .rt w => .ok (.rt w) env2
def rngI (a : Int) : Nat → List Int
  | 0 => []
  | n + 1 => a :: rngI (a + 1) n
def okR (n : Int) : Bool := decide (-8388608 ≤ n) && decide (n ≤ 8388608)
def rngT : T → Option Int → Option (List Int)
  | .int n, none => if okR n then some (rngI 0 n.toNat) else none
  | .int m, some n => if okR m && okR n then some (rngI m (n - m).toNat) else none
  | _, _ => none
/-- list(range(a, b, c)) -/
def stepI (a c : Int) : Nat → List Int
  | 0 => []
  | n + 1 => a :: stepI (a + c) c n
def rng3T : T → T → T → Option (List Int)
  | .int a, .int b, .int c => if okR a && okR b && decide (0 < c) && decide (c ≤ 16777216) then some (stepI a c ((b - a + c - 1) / c).toNat) else none
  | _, _, _ => none
def revT : T → Option W
  | .lst xs => some (.lst (xs.reverse.map .val))
  | _ => none
def outE (env : Env) (is : List Nat) : List (Option W) := is.map fun i => (env[i]?).getD none
/-- the outs are written back into the callers' slots -/
def backO : List Nat → List (Option W) → Env → Env
  | i :: is, o :: os, env => backO is os (env.set i o)
  | _, _, env => env


section
variable (G : Nat → Option T) (C : Calls)
mutual
def evE : E → Env → R W
  | .int i, env => .ok (.val (.int i)) env
  | .bl b, env => .ok (.val (.bl b)) env
  | .non, env => .ok (.val .non) env
  | .str x, env => .ok (.val (.str x)) env
  | .cst g, env => R.of ((G g).map .val) env
  | .rd i, env => (match env[i]? with
    | some (some w) => .ok (.val w.fz) (env.set i (some (.val w.fz)))
    | _ => .no)
  | .rdx i e, env => (match env[i]? with
    | some (some _) => (evE e env).bind fun k env1 => (match env1[i]? with
      | some (some (.val a)) => R.of ((ixT a k.fz).map .val) env1
      | some (some (.lst ws)) => (match k.fz with
        | .int j => (match atI ws j with
          | some (.val t) => .ok (.val t) env1
          | _ => .no)
        | _ => .no)
      | _ => .no)
    | _ => .no)
  | .op o a b, env => (evE a env).bind fun x env1 => (evE b env1).bind fun y env2 => R.of (opT o x.fz y.fz) env2
  | .neg a, env => (evE a env).bind fun x env1 => (match x.fz with
    | .int i => .ok (.val (.int (-i))) env1
    | _ => .no)
  | .cmp o a b, env => (evE a env).bind fun x env1 => (evE b env1).bind fun y env2 => R.of ((cmpT o x.fz y.fz).map fun b => .val (.bl b)) env2
  | .chn o o' a b c, env => (evE a env).bind fun x env1 => (evE b env1).bind fun y env2 => (match cmpT o x.fz y.fz with
    | some true => (evE c env2).bind fun z env3 => R.of ((cmpT o' y.fz z.fz).map fun b => .val (.bl b)) env3
    | some false => .ok (.val (.bl false)) env2
    | none => .no)
  | .one a, env => evE a env
  | .and a b, env => (evE a env).bind fun x env1 => (match x.fz with
    | .bl true => evE b env1
    | .bl false => .ok (.val (.bl false)) env1
    | _ => .no)
  | .or a b, env => (evE a env).bind fun x env1 => (match x.fz with
    | .bl true => .ok (.val (.bl true)) env1
    | .bl false => evE b env1
    | _ => .no)
  | .not a, env => (evE a env).bind fun x env1 => (match x.fz with
    | .bl b => .ok (.val (.bl (!b))) env1
    | _ => .no)
  | .ife c a b, env => (evT c env).bind fun k env1 => (match k with
    | true => evE a env1
    | false => evE b env1)
  | .tup es, env => (evEs es env).bind fun ws env1 => if decide (ws.length ≤ 16777216) then .ok (.val (.tup (fzs ws))) env1 else .no
  | .lst es, env => (evEs es env).bind fun ws env1 => if decide (ws.length ≤ 16777216) then .ok (.lst ws) env1 else .no
  | .ix a i, env => (evE a env).bind fun x env1 => (evE i env1).bind fun y env2 => R.of ((ixT x.fz y.fz).map .val) env2
  | .sl a lo hi, env => (evE a env).bind fun x env1 => (evO lo env1).bind fun l env2 => (evO hi env2).bind fun h env3 => R.of (slT x.fz l h) env3
  | .bi b es, env => (evEs es env).bind fun ws env1 => R.of (biT b (fzs ws)) env1
  | .isi a c, env => (evE a env).bind fun x env1 => R.of ((isiT [c] x.fz).map fun b => .val (.bl b)) env1
  | .isis a cs, env => (evE a env).bind fun x env1 => R.of ((isiT cs x.fz).map fun b => .val (.bl b)) env1
  | .call f as ds, env => (evA as env).bind fun ws env1 => (match C f (ws.1 ++ ds.map .val) with
    | .ok w outs => .ok w (backO ws.2 outs env1)
    | .exc c t outs => .exc c t (backO ws.2 outs env1)
    | .no => .no)
  | .callk f as ks, env => (evA as env).bind fun ws env1 => (evA ks env1).bind fun us env2 => (match C f (ws.1 ++ us.1) with
    | .ok w outs => .ok w (backO ws.2 outs env2)
    | .exc c t outs => .exc c t (backO ws.2 outs env2)
    | .no => .no)
  | .lc own tg it cs e, env => (evI it env).bind fun ts env1 => if hidOk env1 own && tgIn tg own then (match lcL tg own (evTs cs) (evE e) ts [] (wipeE env1 own) with
    | .ok ws env2 => .ok (.lst ws) (backE env1 env2 own)
    | _ => .no) else .no
  | .lenS z, env => (evSe z env).bind fun is env1 => .ok (.val (.int is.length)) env1
  | .srtS z, env => (evSe z env).bind fun is env1 => if decide (is.length < 64) then .ok (.lst ((sortI is).map fun i => .val (.int i))) env1 else .no
  | .lrng3 a b c, env => (evE a env).bind fun x env1 => (evE b env1).bind fun y env2 => (evE c env2).bind fun z env3 => R.of ((rng3T x.fz y.fz z.fz).map fun is => .lst (is.map fun i => .val (.int i))) env3
  | .rev a, env => (evE a env).bind fun x env1 => R.of (revT x.fz) env1
  | .lrng a b, env => (evE a env).bind fun x env1 => (evO b env1).bind fun y env2 => R.of ((rngT x.fz y).map fun is => .lst (is.map fun i => .val (.int i))) env2
def evSe : Se → Env → R (List Int)
  | .sc own tg it cs e, env => (evI it env).bind fun ts env1 => if hidOk env1 own && tgIn tg own then (match scL tg own (evTs cs) (evE e) ts [] (wipeE env1 own) with
    | .ok is env2 => .ok is (backE env1 env2 own)
    | _ => .no) else .no
  | .of e, env => (evE e env).bind fun w env1 => (match w.fz with
    | .lst ts => (match T.ints ts with
      | some is => if decide (is.length < 4095) then .ok (dedI [] is) env1 else .no
      | none => .no)
    | _ => .no)
def evEs : Es → Env → R (List W)
  | .nil, env => .ok [] env
  | .cons e es, env => (evE e env).bind fun w env1 => (evEs es env1).bind fun ws env2 => .ok (w :: ws) env2
def evO : Eo → Env → R (Option Int)
  | .no, env => .ok none env
  | .so e, env => (evE e env).bind fun w env1 => (match w.fz with
    | .int i => .ok (some i) env1
    | _ => .no)
def evT : Tt → Env → R Bool
  | .v e, env => (evE e env).bind fun w env1 => R.of w.fz.tru env1
  | .one a, env => evT a env
  | .and a b, env => (evT a env).bind fun k env1 => (match k with
    | true => evT b env1
    | false => .ok false env1)
  | .or a b, env => (evT a env).bind fun k env1 => (match k with
    | true => .ok true env1
    | false => evT b env1)
  | .not a, env => (evT a env).bind fun k env1 => .ok (!k) env1
def evTs : Tts → Env → R Bool
  | .nil, env => .ok true env
  | .cons c cs, env => (evT c env).bind fun k env1 => (match k with
    | true => evTs cs env1
    | false => .ok false env1)
def evI : It → Env → R (List T)
  | .e e, env => (evE e env).bind fun w env1 => (match w.fz with
    | .lst ts => .ok ts env1
    | .tup ts => .ok ts env1
    | _ => .no)
  | .rng a b, env => (evE a env).bind fun x env1 => (evO b env1).bind fun y env2 => R.of ((rngT x.fz y).map fun is => is.map .int) env2
/-- arguments: the values, and the slots that are handed in and out -/
def evA : As → Env → R (List W × List Nat)
  | .nil, env => .ok ([], []) env
  | .cons e as, env => (evE e env).bind fun w env1 => (evA as env1).bind fun r env2 => .ok (.val w.fz :: r.1, r.2) env2
  | .io i as, env => (match env[i]? with
    | some (some w) => (evA as (env.set i none)).bind fun r env2 => .ok (w :: r.1, i :: r.2) env2
    | _ => .no)
end
mutual
def evS : S → Env → R F
  | .asg i e, env => (evE G C e env).bind fun w env1 => .ok .nx (env1.set i (some w))
  | .asgT is e, env => (evE G C e env).bind fun w env1 => (match tgE (.tup is) w.fz env1 with
    | some env2 => .ok .nx env2
    | none => .no)
  | .par is es, env => (evEs G C es env).bind fun ws env1 => if is.length = ws.length then .ok .nx ((is.zip ws).foldl (fun e p => e.set p.1 (some p.2)) env1) else .no
  | .setx i k e, env => (evE G C e env).bind fun w env1 => (match env1[i]? with
    | some (some (.lst _)) => (evE G C k env1).bind fun y env2 => (match env2[i]? with
      | some (some (.lst ws)) => (match y.fz with
        | .int j => (match L2.ixN ws.length j with
          | some n => .ok .nx (env2.set i (some (.lst (ws.set n w))))
          | none => .no)
        | _ => .no)
      | _ => .no)
    | _ => .no)
  | .app i e, env => (match env[i]? with
    | some (some (.lst _)) => (evE G C e env).bind fun w env1 => (match env1[i]? with
      | some (some (.lst ws)) => if decide (ws.length < 16777216) then .ok .nx (env1.set i (some (.lst (ws ++ [w])))) else .no
      | _ => .no)
    | _ => .no)
  | .expr e, env => (evE G C e env).bind fun _ env1 => .ok .nx env1
  | .ret e, env => (evE G C e env).bind fun w env1 => .ok (.rt w) env1
  | .retv i, env => (match env[i]? with
    | some (some w) => .ok (.rt w) (env.set i none)
    | _ => .no)
  | .retn, env => .ok (.rt (.val .non)) env
  | .ife c a b, env => (evT G C c env).bind fun k env1 => (match k with
    | true => evSs a env1
    | false => evSs b env1)
  | .for_ tg it b, env => (evI G C it env).bind fun ts env1 => forL tg (evSs b) ts env1
  | .pass, env => .ok .nx env
  | .never, _ => .no
def evSs : Ss → Env → R F
  | .nil, env => .ok .nx env
  | .cons s ss, env => (evS s env).bind fun f env1 => (match f with
    | .nx => evSs ss env1
    | f => .ok f env1)
end
end
/-- a def: how many parameters, how many slots, the parameters that are handed in and out, the body -/
structure FD where
  np : Nat
  ns : Nat
  io : List Nat
  body : Ss
def callN (G : Nat → Option T) (tab : Nat → Option FD) : Nat → Calls
  | 0, _, _ => .no
  | d + 1, f, ws => match tab f with
    | none => .no
    | some fd => if ws.length = fd.np then (match evSs G (callN G tab d) fd.body (ws.map some ++ List.replicate (fd.ns - fd.np) none) with
      | .ok .nx env => .ok (.val .non) (outE env fd.io)
      | .ok (.rt w) env => .ok w (outE env fd.io)
      | .ok _ _ => .no
      | .exc c t env => .exc c t (outE env fd.io)
      | .no => .no) else .no
end Ev
set_option maxHeartbeats 4000000
/-! Ev1: what a tree says of the heap. -/
namespace Ev
open PySem L2

/-- a set of ints by its members -/
structure SetIs (S : Int → Bool) (n : Nat) (is : List Int) : Prop where
  mem : ∀ i, S i = true ↔ i ∈ is
  nd : is.Nodup
  len : n = is.length
section
variable (K : PySem.W.Frag) (H : Hp) (av : Addr → Prop)
mutual
def Fz : T → V → Prop
  | .non, v => v = .non
  | .bl b, v => v = .bl b
  | .int i, v => v = .int i
  | .str x, v => v = .str x
  | .ty n, v => v = .ty n
  | .gl _, _ => False
  | .tup ts, v => ∃ a xs, v = .ref a ∧ SqT K H a xs ∧ FzL ts xs
  | .lst ts, v => ∃ a xs, v = .ref a ∧ Rd H a (.lst xs) ∧ ¬ av a ∧ FzL ts xs
  | .set ts, v => ∃ a S n is, v = .ref a ∧ H a = some (.set S n) ∧ ¬ av a ∧ SetIs S n is ∧ ts = is.map T.int
  | .dct _ _, _ => False
  | .ins _ _ _, _ => False
  | .scr is, v => ∃ a, v = .ref a ∧ ((Rd H a (.lst (is.map V.int)) ∧ ¬ av a) ∨ SqL K (fun _ => none) a (is.map V.int))
def FzL : List T → List V → Prop
  | [], vs => vs = []
  | t :: ts, vs => ∃ v r, vs = v :: r ∧ Fz t v ∧ FzL ts r
end
mutual
def Own : W → V → List Addr → Prop
  | .val t, v, A => A = [] ∧ Fz K H av t v
  | .lst ws, v, A => ∃ a xs B, v = .ref a ∧ A = a :: B ∧ H a = some (.lst xs) ∧ OwnL ws xs B
  | .set ts, v, A => ∃ a S n is, v = .ref a ∧ A = [a] ∧ H a = some (.set S n) ∧ SetIs S n is ∧ ts = is.map T.int
def OwnL : List W → List V → List Addr → Prop
  | [], vs, A => vs = [] ∧ A = []
  | w :: ws, vs, A => ∃ v r B D, vs = v :: r ∧ A = B ++ D ∧ Own w v B ∧ OwnL ws r D
end
end
/-- a frame's slots -/
def RE (K : PySem.W.Frag) (H : Hp) (av : Addr → Prop) : Env → St → List Addr → Prop
  | [], σ, A => σ = [] ∧ A = []
  | none :: env, σ, A => ∃ o r, σ = o :: r ∧ RE K H av env r A
  | some w :: env, σ, A => ∃ v r B D, σ = some v :: r ∧ A = B ++ D ∧ Own K H av w v B ∧ RE K H av env r D
def Av (A : List Addr) (Rt : Addr → Prop) : Addr → Prop := fun b => b ∈ A ∨ Rt b
/-- from H to H': what is not in A stands as it stood -/
structure Stp (A : List Addr) (H H' : Hp) : Prop where
  keep : ∀ b o, H b = some o → b ∉ A → H' b = some o
  tups : ∀ b xs, Rd H b (.tup xs) → Rd H' b (.tup xs)

section
variable {K : PySem.W.Frag} {H H' : Hp} {av av' : Addr → Prop}
theorem SqT.mono (tups : ∀ b xs, Rd H b (.tup xs) → Rd H' b (.tup xs)) {a : Addr} {xs : List V} (h : SqT K H a xs) : SqT K H' a xs := by
  rcases h with h | h
  · exact .inl (tups _ _ h)
  · exact .inr h
theorem Rd.mono {a : Addr} {u : HO} (h : Rd H a u) (keep : ∀ o, H a = some o → H' a = some o) : Rd H' a u := by
  rcases h with h | ⟨o, h⟩
  · exact .inl (keep _ h)
  · exact .inr ⟨o, keep _ h⟩
theorem Rd.there {a : Addr} {u : HO} (h : Rd H a u) : ∃ o, H a = some o := by
  rcases h with h | ⟨o, h⟩
  · exact ⟨_, h⟩
  · exact ⟨_, h⟩
mutual
theorem Fz.mono (keep : ∀ b o, H b = some o → ¬ av b → H' b = some o) (tups : ∀ b xs, Rd H b (.tup xs) → Rd H' b (.tup xs)) (hav : ∀ b, av' b → av b ∨ H b = none) :
    ∀ (t : T) (v : V), Fz K H av t v → Fz K H' av' t v
  | .non, _, h => h
  | .bl _, _, h => h
  | .int _, _, h => h
  | .str _, _, h => h
  | .ty _, _, h => h
  | .gl _, _, h => h
  | .tup ts, v, h => by
    obtain ⟨a, xs, e, hs, hl⟩ := h
    exact ⟨a, xs, e, SqT.mono tups hs, FzL.mono keep tups hav ts xs hl⟩
  | .lst ts, v, h => by
    obtain ⟨a, xs, e, hs, na, hl⟩ := h
    refine ⟨a, xs, e, Rd.mono hs fun o q => keep a o q na, fun z => ?_, FzL.mono keep tups hav ts xs hl⟩
    rcases hav a z with z | z1
    · exact na z
    · obtain ⟨o, q⟩ := Rd.there hs
      rw [z1] at q; cases q
  | .set ts, v, h => by
    obtain ⟨a, S, n, is, e, hs, na, si, et⟩ := h
    refine ⟨a, S, n, is, e, keep a _ hs na, fun z => ?_, si, et⟩
    rcases hav a z with z | z1
    · exact na z
    · rw [z1] at hs; cases hs
  | .dct _ _, _, h => h
  | .ins _ _ _, _, h => h
  | .scr is, v, h => by
    obtain ⟨a, e, hs⟩ := h
    rcases hs with ⟨hs, na⟩ | hs
    · refine ⟨a, e, .inl ⟨Rd.mono hs fun o q => keep a o q na, fun z => ?_⟩⟩
      rcases hav a z with z | z1
      · exact na z
      · obtain ⟨o, q⟩ := Rd.there hs
        rw [z1] at q; cases q
    · exact ⟨a, e, .inr hs⟩
theorem FzL.mono (keep : ∀ b o, H b = some o → ¬ av b → H' b = some o) (tups : ∀ b xs, Rd H b (.tup xs) → Rd H' b (.tup xs)) (hav : ∀ b, av' b → av b ∨ H b = none) :
    ∀ (ts : List T) (vs : List V), FzL K H av ts vs → FzL K H' av' ts vs
  | [], _, h => h
  | t :: ts, vs, h => by
    obtain ⟨v, r, e, h1, h2⟩ := h
    exact ⟨v, r, e, Fz.mono keep tups hav t v h1, FzL.mono keep tups hav ts r h2⟩
end
mutual
theorem Own.mono : ∀ (w : W) (v : V) (B : List Addr), (∀ b o, H b = some o → (b ∈ B ∨ ¬ av b) → H' b = some o) → (∀ b xs, Rd H b (.tup xs) → Rd H' b (.tup xs)) → (∀ b, av' b → av b ∨ H b = none) →
    Own K H av w v B → Own K H' av' w v B
  | .val t, v, B, keep, tups, hav, h => ⟨h.1, Fz.mono (fun b o q n => keep b o q (.inr n)) tups hav t v h.2⟩
  | .lst ws, v, B, keep, tups, hav, h => by
    obtain ⟨a, xs, D, e, eB, ha, hl⟩ := h
    subst eB
    exact ⟨a, xs, D, e, rfl, keep a _ ha (.inl List.mem_cons_self), OwnL.mono ws xs D (fun b o q n => keep b o q (n.imp (List.mem_cons_of_mem _) id)) tups hav hl⟩
  | .set ts, v, B, keep, tups, hav, h => by
    obtain ⟨a, S, n, is, e, eB, ha, si, et⟩ := h
    subst eB
    exact ⟨a, S, n, is, e, rfl, keep a _ ha (.inl List.mem_cons_self), si, et⟩
theorem OwnL.mono : ∀ (ws : List W) (vs : List V) (B : List Addr), (∀ b o, H b = some o → (b ∈ B ∨ ¬ av b) → H' b = some o) → (∀ b xs, Rd H b (.tup xs) → Rd H' b (.tup xs)) → (∀ b, av' b → av b ∨ H b = none) →
    OwnL K H av ws vs B → OwnL K H' av' ws vs B
  | [], _, _, _, _, _, h => h
  | w :: ws, vs, B, keep, tups, hav, h => by
    obtain ⟨v, r, B1, B2, e, eB, h1, h2⟩ := h
    subst eB
    exact ⟨v, r, B1, B2, e, rfl, Own.mono w v B1 (fun b o q n => keep b o q (n.imp (List.mem_append_left _) id)) tups hav h1, OwnL.mono ws r B2 (fun b o q n => keep b o q (n.imp (List.mem_append_right _) id)) tups hav h2⟩
end
theorem RE.mono : ∀ (env : Env) (σ : St) (A : List Addr), (∀ b o, H b = some o → (b ∈ A ∨ ¬ av b) → H' b = some o) → (∀ b xs, Rd H b (.tup xs) → Rd H' b (.tup xs)) → (∀ b, av' b → av b ∨ H b = none) →
    RE K H av env σ A → RE K H' av' env σ A
  | [], _, _, _, _, _, h => h
  | none :: env, σ, A, keep, tups, hav, h => by
    obtain ⟨o, r, e, h⟩ := h
    exact ⟨o, r, e, RE.mono env r A keep tups hav h⟩
  | some w :: env, σ, A, keep, tups, hav, h => by
    obtain ⟨v, r, B1, B2, e, eB, h1, h2⟩ := h
    subst eB
    exact ⟨v, r, B1, B2, e, rfl, Own.mono w v B1 (fun b o q n => keep b o q (n.imp (List.mem_append_left _) id)) tups hav h1, RE.mono env r B2 (fun b o q n => keep b o q (n.imp (List.mem_append_right _) id)) tups hav h2⟩
mutual
theorem Own.fz (hav : ∀ b, av' b → av b) : ∀ (w : W) (v : V) (B : List Addr), (∀ b ∈ B, ¬ av' b) → Own K H av w v B → Fz K H av' w.fz v
  | .val t, v, B, _, h => Fz.mono (fun b o q n => q) (fun _ _ q => q) (fun b z => .inl (hav b z)) t v h.2
  | .lst ws, v, B, nb, h => by
    obtain ⟨a, xs, D, e, eB, ha, hl⟩ := h
    subst eB
    exact ⟨a, xs, e, Rd.of ha, nb a List.mem_cons_self, OwnL.fz hav ws xs D (fun b hb => nb b (List.mem_cons_of_mem _ hb)) hl⟩
  | .set ts, v, B, nb, h => by
    obtain ⟨a, S, n, is, e, eB, ha, si, et⟩ := h
    subst eB
    exact ⟨a, S, n, is, e, ha, nb a List.mem_cons_self, si, et⟩
theorem OwnL.fz (hav : ∀ b, av' b → av b) : ∀ (ws : List W) (vs : List V) (B : List Addr), (∀ b ∈ B, ¬ av' b) → OwnL K H av ws vs B → FzL K H av' (fzs ws) vs
  | [], _, _, _, h => h.1
  | w :: ws, vs, B, nb, h => by
    obtain ⟨v, r, B1, B2, e, eB, h1, h2⟩ := h
    subst eB
    exact ⟨v, r, e, Own.fz hav w v B1 (fun b hb => nb b (List.mem_append_left _ hb)) h1, OwnL.fz hav ws r B2 (fun b hb => nb b (List.mem_append_right _ hb)) h2⟩
end
mutual
theorem Own.there : ∀ (w : W) (v : V) (B : List Addr), Own K H av w v B → ∀ b ∈ B, ∃ o, H b = some o ∧ ∀ xs, ¬ Rd H b (.tup xs)
  | .val t, v, B, h, b, hb => by rw [h.1] at hb; cases hb
  | .lst ws, v, B, h, b, hb => by
    obtain ⟨a, xs, D, e, eB, ha, hl⟩ := h
    subst eB
    rcases List.mem_cons.mp hb with rfl | hb
    · refine ⟨_, ha, fun xs z => ?_⟩
      rcases z with z | ⟨o, z⟩ <;> (rw [ha] at z; cases z)
    · exact OwnL.there ws xs D hl b hb
  | .set ts, v, B, h, b, hb => by
    obtain ⟨a, S, n, is, e, eB, ha, si, et⟩ := h
    subst eB
    rcases List.mem_cons.mp hb with rfl | hb
    · refine ⟨_, ha, fun xs z => ?_⟩
      rcases z with z | ⟨o, z⟩ <;> (rw [ha] at z; cases z)
    · cases hb
theorem OwnL.there : ∀ (ws : List W) (vs : List V) (B : List Addr), OwnL K H av ws vs B → ∀ b ∈ B, ∃ o, H b = some o ∧ ∀ xs, ¬ Rd H b (.tup xs)
  | [], _, _, h, b, hb => by rw [h.2] at hb; cases hb
  | w :: ws, vs, B, h, b, hb => by
    obtain ⟨v, r, B1, B2, e, eB, h1, h2⟩ := h
    subst eB
    rcases List.mem_append.mp hb with hb | hb
    · exact Own.there w v B1 h1 b hb
    · exact OwnL.there ws r B2 h2 b hb
end
theorem RE.there : ∀ (env : Env) (σ : St) (A : List Addr), RE K H av env σ A → ∀ b ∈ A, ∃ o, H b = some o ∧ ∀ xs, ¬ Rd H b (.tup xs)
  | [], _, _, h, b, hb => by rw [h.2] at hb; cases hb
  | none :: env, σ, A, h, b, hb => by
    obtain ⟨o, r, e, h⟩ := h
    exact RE.there env r A h b hb
  | some w :: env, σ, A, h, b, hb => by
    obtain ⟨v, r, B1, B2, e, eB, h1, h2⟩ := h
    subst eB
    rcases List.mem_append.mp hb with hb | hb
    · exact Own.there w v B1 h1 b hb
    · exact RE.there env r B2 h2 b hb
theorem RE.len : ∀ (env : Env) (σ : St) (A : List Addr), RE K H av env σ A → env.length = σ.length
  | [], _, _, h => by
    rw [h.1]
    rfl
  | none :: env, σ, A, h => by
    obtain ⟨o, r, e, h⟩ := h
    rw [e, List.length_cons, List.length_cons, RE.len env r A h]
  | some w :: env, σ, A, h => by
    obtain ⟨v, r, B1, B2, e, eB, h1, h2⟩ := h
    rw [e, List.length_cons, List.length_cons, RE.len env r B2 h2]
end
end Ev
set_option maxHeartbeats 4000000
/-! Ev2: states, steps; how readings follow one another. -/
namespace Ev
open PySem L2

structure Go (A : List Addr) (H : Hp) (A' : List Addr) (H' : Hp) : Prop where
  keep : ∀ b o, H b = some o → b ∉ A → H' b = some o
  tups : ∀ b xs, Rd H b (.tup xs) → Rd H' b (.tup xs)
  new : ∀ b ∈ A', b ∈ A ∨ H b = none
theorem Go.trans {A A1 B1 A2 : List Addr} {H H1 H2 : Hp} (g : Go A H (A1 ++ B1) H1) (g2 : Go A1 H1 A2 H2) : Go A H (A2 ++ B1) H2 where
  keep := fun b o q n => g2.keep b o (g.keep b o q n) fun z => (g.new b (List.mem_append_left _ z)).elim n fun e => by rw [e] at q; cases q
  tups := fun b xs h => g2.tups b xs (g.tups b xs h)
  new := fun b hb => by
    rcases List.mem_append.mp hb with hb | hb
    · rcases g2.new b hb with z | z
      · exact g.new b (List.mem_append_left _ z)
      · by_cases ha : b ∈ A
        · exact .inl ha
        · cases q : H b with
          | none => exact .inr rfl
          | some o => rw [g.keep b o q ha] at z; cases z
    · exact g.new b (List.mem_append_right _ hb)
theorem Go.sub {A A' A'' : List Addr} {H H' : Hp} (g : Go A H A' H') (h : ∀ b ∈ A'', b ∈ A') : Go A H A'' H' := ⟨g.keep, g.tups, fun b hb => g.new b (h b hb)⟩
theorem Go.refl {A : List Addr} {H : Hp} : Go A H A H := ⟨fun _ _ q _ => q, fun _ _ q => q, fun _ hb => .inl hb⟩
theorem Go.upd {A A' : List Addr} {H H' : Hp} {p : Addr} {o : HO} (g : Go A H A' H') (hp : H' p = none) : Go A H (p :: A') (L2.upd H' p o) where
  keep := fun b u q n => by
    have e := g.keep b u q n
    rw [upd_ne (ne_of_none e hp)]
    exact e
  tups := fun b xs h => by
    refine Rd.mono (g.tups b xs h) fun u q => ?_
    rw [upd_ne (ne_of_none q hp)]
    exact q
  new := fun b hb => by
    rcases List.mem_cons.mp hb with rfl | hb
    · by_cases ha : b ∈ A
      · exact .inl ha
      · cases q : H b with
        | none => exact .inr rfl
        | some u => rw [g.keep b u q ha] at hp; cases hp
    · exact g.new b hb
/-- the addresses that others own -/
def RtB (B : List Addr) (Rt : Addr → Prop) : Addr → Prop := fun b => b ∈ B ∨ Rt b
structure Rl (K : PySem.W.Frag) (Rt : Addr → Prop) (H : Hp) (σ : St) (env : Env) (A : List Addr) : Prop where
  nd : A.Nodup
  rt : ∀ b ∈ A, ¬ Rt b
  th : ∀ b, Rt b → H b ≠ none
  re : RE K H (Av A Rt) env σ A
/-- from an origin (H, A) to a state with values that own B -/
structure Sx (K : PySem.W.Frag) (Rt : Addr → Prop) (σ : St) (H : Hp) (A : List Addr) (H' : Hp) (env : Env) (A' B : List Addr) : Prop where
  go : Go A H (A' ++ B) H'
  nd : (A' ++ B).Nodup
  rt : ∀ b ∈ A' ++ B, ¬ Rt b
  th : ∀ b, Rt b → H' b ≠ none
  bth : ∀ b ∈ B, H' b ≠ none
  re : RE K H' (Av (A' ++ B) Rt) env σ A'
section
variable {K : PySem.W.Frag} {Rt : Addr → Prop} {H H1 H2 : Hp} {σ σ0 : St} {env env1 env2 : Env} {A A1 A2 B B' B1 B2 : List Addr} {p : Addr} {o : HO} {w : W} {ws : List W} {v : V} {vs : List V} {t : T} {ts : List T}
theorem Rl.sx (h : Rl K Rt H σ env A) : Sx K Rt σ H A H env A [] where
  go := by rw [List.append_nil]; exact Go.refl
  nd := by rw [List.append_nil]; exact h.nd
  rt := by rw [List.append_nil]; exact h.rt
  th := h.th
  bth := fun b hb => by cases hb
  re := by rw [List.append_nil]; exact h.re
theorem Sx.rl (h : Sx K Rt σ H A H1 env1 A1 B1) : Rl K (RtB B1 Rt) H1 σ env1 A1 where
  nd := (List.nodup_append.mp h.nd).1
  rt := fun b hb z => by
    rcases z with z | z
    · exact (List.nodup_append.mp h.nd).2.2 b hb b z rfl
    · exact h.rt b (List.mem_append_left _ hb) z
  th := fun b z => by
    rcases z with z | z
    · exact h.bth b z
    · exact h.th b z
  re := RE.mono env1 σ A1 (fun b o q _ => q) (fun _ _ q => q) (fun b z => .inl (by
    rcases z with z | z | z
    · exact .inl (List.mem_append_left _ z)
    · exact .inl (List.mem_append_right _ z)
    · exact .inr z)) h.re
theorem Sx.rl0 (h : Sx K Rt σ H A H1 env1 A1 []) : Rl K Rt H1 σ env1 A1 := by
  have e : A1 ++ [] = A1 := List.append_nil _
  exact ⟨by rw [← e]; exact h.nd, by rw [← e]; exact h.rt, h.th, by rw [← e]; exact (by have := h.re; rw [e] at this ⊢; exact this)⟩
/-- b is none of A1 where it was kept ahead -/
theorem Sx.out (h : Sx K Rt σ H A H1 env1 A1 B1) {b : Addr} (hb : b ∈ B1) : b ∉ A1 := fun z => (List.nodup_append.mp h.nd).2.2 b z b hb rfl
theorem Sx.hav (h : Sx K Rt σ0 H A H1 env1 A1 B1) (n : Sx K (RtB B1 Rt) σ H1 A1 H2 env2 A2 B2) : ∀ b, Av (A2 ++ (B1 ++ B2)) Rt b → Av (A1 ++ B1) Rt b ∨ H1 b = none := fun b z => by
  rcases z with z | z
  · rcases List.mem_append.mp z with z | z
    · exact (n.go.new b (List.mem_append_left _ z)).imp (fun q => .inl (List.mem_append_left _ q)) id
    · rcases List.mem_append.mp z with z | z
      · exact .inl (.inl (List.mem_append_right _ z))
      · exact (n.go.new b (List.mem_append_right _ z)).imp (fun q => .inl (List.mem_append_left _ q)) id
  · exact .inl (.inr z)
theorem Sx.hav2 : ∀ b, Av (A2 ++ (B1 ++ B2)) Rt b → Av (A2 ++ B2) (RtB B1 Rt) b ∨ H2 b = none := fun b z => .inl (by
  rcases z with z | z
  · rcases List.mem_append.mp z with z | z
    · exact .inl (List.mem_append_left _ z)
    · rcases List.mem_append.mp z with z | z
      · exact .inr (.inl z)
      · exact .inl (List.mem_append_right _ z)
  · exact .inr (.inr z))
theorem Sx.next (h : Sx K Rt σ0 H A H1 env1 A1 B1) (n : Sx K (RtB B1 Rt) σ H1 A1 H2 env2 A2 B2) : Sx K Rt σ H A H2 env2 A2 (B1 ++ B2) where
  go := (h.go.trans n.go).sub fun b hb => by
    rcases List.mem_append.mp hb with z | z
    · exact List.mem_append_left _ (List.mem_append_left _ z)
    · rcases List.mem_append.mp z with z | z
      · exact List.mem_append_right _ z
      · exact List.mem_append_left _ (List.mem_append_right _ z)
  nd := by
    have d1 := List.nodup_append.mp n.nd
    have d2 := List.nodup_append.mp h.nd
    refine List.nodup_append.mpr ⟨d1.1, List.nodup_append.mpr ⟨d2.2.1, d1.2.1, fun a ha b hb e => ?_⟩, fun a ha b hb e => ?_⟩
    · subst e
      exact n.rt a (List.mem_append_right _ hb) (.inl ha)
    · subst e
      rcases List.mem_append.mp hb with hb | hb
      · exact n.rt a (List.mem_append_left _ ha) (.inl hb)
      · exact d1.2.2 a ha a hb rfl
  rt := fun b hb z => by
    rcases List.mem_append.mp hb with hb | hb
    · exact n.rt b (List.mem_append_left _ hb) (.inr z)
    · rcases List.mem_append.mp hb with hb | hb
      · exact h.rt b (List.mem_append_right _ hb) z
      · exact n.rt b (List.mem_append_right _ hb) (.inr z)
  th := fun b z => n.th b (.inr z)
  bth := fun b hb => by
    rcases List.mem_append.mp hb with hb | hb
    · exact n.th b (.inl hb)
    · exact n.bth b hb
  re := RE.mono env2 σ A2 (fun b o q _ => q) (fun _ _ q => q) Sx.hav2 n.re
theorem Sx.own (h : Sx K Rt σ0 H A H1 env1 A1 B1) (n : Sx K (RtB B1 Rt) σ H1 A1 H2 env2 A2 B2) (ow : Own K H1 (Av (A1 ++ B1) Rt) w v B1) : Own K H2 (Av (A2 ++ (B1 ++ B2)) Rt) w v B1 :=
  Own.mono w v B1 (fun b o q c => n.go.keep b o q fun z => c.elim (fun c => h.out c z) fun c => c (.inl (List.mem_append_left _ z))) n.go.tups (h.hav n) ow
theorem Sx.ownL (h : Sx K Rt σ0 H A H1 env1 A1 B1) (n : Sx K (RtB B1 Rt) σ H1 A1 H2 env2 A2 B2) (ow : OwnL K H1 (Av (A1 ++ B1) Rt) ws vs B1) : OwnL K H2 (Av (A2 ++ (B1 ++ B2)) Rt) ws vs B1 :=
  OwnL.mono ws vs B1 (fun b o q c => n.go.keep b o q fun z => c.elim (fun c => h.out c z) fun c => c (.inl (List.mem_append_left _ z))) n.go.tups (h.hav n) ow
theorem Sx.own2 (ow : Own K H2 (Av (A2 ++ B2) (RtB B1 Rt)) w v B2) : Own K H2 (Av (A2 ++ (B1 ++ B2)) Rt) w v B2 :=
  Own.mono w v B2 (fun b o q _ => q) (fun _ _ q => q) Sx.hav2 ow
theorem Sx.ownL2 (ow : OwnL K H2 (Av (A2 ++ B2) (RtB B1 Rt)) ws vs B2) : OwnL K H2 (Av (A2 ++ (B1 ++ B2)) Rt) ws vs B2 :=
  OwnL.mono ws vs B2 (fun b o q _ => q) (fun _ _ q => q) Sx.hav2 ow
/-- some owned addresses are let go -/
theorem Sx.avs (hs : ∀ b ∈ B', b ∈ B) : ∀ b, Av (A1 ++ B') Rt b → Av (A1 ++ B) Rt b := fun b z => by
  rcases z with z | z
  · rcases List.mem_append.mp z with z | z
    · exact .inl (List.mem_append_left _ z)
    · exact .inl (List.mem_append_right _ (hs b z))
  · exact .inr z
theorem Sx.drop (h : Sx K Rt σ H A H1 env1 A1 B) (nd : B'.Nodup) (hs : ∀ b ∈ B', b ∈ B) : Sx K Rt σ H A H1 env1 A1 B' where
  go := h.go.sub fun b hb => by
    rcases List.mem_append.mp hb with z | z
    · exact List.mem_append_left _ z
    · exact List.mem_append_right _ (hs b z)
  nd := by
    have d := List.nodup_append.mp h.nd
    exact List.nodup_append.mpr ⟨d.1, nd, fun a ha b hb e => d.2.2 a ha b (hs b hb) e⟩
  rt := fun b hb => h.rt b (by
    rcases List.mem_append.mp hb with z | z
    · exact List.mem_append_left _ z
    · exact List.mem_append_right _ (hs b z))
  th := h.th
  bth := fun b hb => h.bth b (hs b hb)
  re := RE.mono env1 σ A1 (fun b o q _ => q) (fun _ _ q => q) (fun b z => .inl (Sx.avs hs b z)) h.re
theorem Sx.drop0 (h : Sx K Rt σ H A H1 env1 A1 B) : Sx K Rt σ H A H1 env1 A1 [] := h.drop List.nodup_nil fun b hb => by cases hb
theorem Sx.fz0 (h : Sx K Rt σ H A H1 env1 A1 B) (ow : Own K H1 (Av (A1 ++ B) Rt) w v B) : Fz K H1 (Av (A1 ++ []) Rt) w.fz v :=
  Own.fz (Sx.avs fun b hb => by cases hb) w v B (fun b hb z => by
    rcases z with z | z
    · rw [List.append_nil] at z; exact h.out hb z
    · exact h.rt b (List.mem_append_right _ hb) z) ow
/-- a new object -/
theorem Sx.new (h : Sx K Rt σ H A H1 env1 A1 B) (hp : H1 p = none) : Sx K Rt σ H A (upd H1 p o) env1 A1 (p :: B) where
  go := (h.go.upd hp).sub fun b hb => by
    rcases List.mem_append.mp hb with z | z
    · exact List.mem_cons_of_mem _ (List.mem_append_left _ z)
    · rcases List.mem_cons.mp z with rfl | z
      · exact List.mem_cons_self
      · exact List.mem_cons_of_mem _ (List.mem_append_right _ z)
  nd := by
    have d := List.nodup_append.mp h.nd
    have nA : p ∉ A1 := fun z => by
      obtain ⟨o, q, _⟩ := RE.there env1 σ A1 h.re p z
      rw [hp] at q; cases q
    have nB : p ∉ B := fun z => h.bth p z hp
    refine List.nodup_append.mpr ⟨d.1, List.nodup_cons.mpr ⟨nB, d.2.1⟩, fun a ha b hb e => ?_⟩
    rcases List.mem_cons.mp hb with rfl | hb
    · subst e; exact nA ha
    · exact d.2.2 a ha b hb e
  rt := fun b hb z => by
    rcases List.mem_append.mp hb with q | q
    · exact h.rt b (List.mem_append_left _ q) z
    · rcases List.mem_cons.mp q with rfl | q
      · exact h.th b z hp
      · exact h.rt b (List.mem_append_right _ q) z
  th := fun b z => by
    by_cases e : b = p
    · subst e; rw [upd_same]; exact fun q => by cases q
    · rw [upd_ne e]; exact h.th b z
  bth := fun b hb => by
    by_cases e : b = p
    · subst e; rw [upd_same]; exact fun q => by cases q
    · rw [upd_ne e]
      rcases List.mem_cons.mp hb with z | z
      · exact absurd z e
      · exact h.bth b z
  re := RE.mono env1 σ A1 (fun b u q _ => by rw [upd_ne (ne_of_none q hp)]; exact q) (fun b xs q => Rd.mono q fun u q => by rw [upd_ne (ne_of_none q hp)]; exact q) (fun b z => by
    rcases z with z | z
    · rcases List.mem_append.mp z with z | z
      · exact .inl (.inl (List.mem_append_left _ z))
      · rcases List.mem_cons.mp z with rfl | z
        · exact .inr hp
        · exact .inl (.inl (List.mem_append_right _ z))
    · exact .inl (.inr z)) h.re
/-- what is frozen or owned stays so behind a new object -/
theorem Sx.newav (hp : H1 p = none) : ∀ b, Av (A1 ++ (p :: B)) Rt b → Av (A1 ++ B) Rt b ∨ H1 b = none := fun b z => by
  rcases z with z | z
  · rcases List.mem_append.mp z with z | z
    · exact .inl (.inl (List.mem_append_left _ z))
    · rcases List.mem_cons.mp z with rfl | z
      · exact .inr hp
      · exact .inl (.inl (List.mem_append_right _ z))
  · exact .inl (.inr z)
theorem newkeep (hp : H1 p = none) : ∀ b u, H1 b = some u → upd H1 p o b = some u := fun b u q => by rw [upd_ne (ne_of_none q hp)]; exact q
theorem newtups (hp : H1 p = none) : ∀ b xs, Rd H1 b (.tup xs) → Rd (upd H1 p o) b (.tup xs) := fun b xs q => Rd.mono q fun u q => newkeep hp b u q
theorem OwnL.newp (hp : H1 p = none) (ow : OwnL K H1 (Av (A1 ++ B) Rt) ws vs B) : OwnL K (upd H1 p o) (Av (A1 ++ (p :: B)) Rt) ws vs B :=
  OwnL.mono ws vs B (fun b u q _ => newkeep hp b u q) (newtups hp) (Sx.newav hp) ow
theorem FzL.newp (hp : H1 p = none) (ow : FzL K H1 (Av (A1 ++ B) Rt) ts vs) : FzL K (upd H1 p o) (Av (A1 ++ (p :: B)) Rt) ts vs :=
  FzL.mono (fun b u q _ => newkeep hp b u q) (newtups hp) (Sx.newav hp) ts vs ow
theorem RE.slot {av : Addr → Prop} : ∀ (env : Env) (σ : St) (A : List Addr) (i : Nat), RE K H av env σ A → i < env.length → ∃ A1 B A2, A = A1 ++ (B ++ A2) ∧ (env[i]? = some none → B = []) ∧
    (∀ w, env[i]? = some (some w) → ∃ v, σ[i]? = some (some v) ∧ Own K H av w v B) ∧
    ∀ (H' : Hp) (av' : Addr → Prop), (∀ b o, H b = some o → (b ∈ A1 ++ A2 ∨ ¬ av b) → H' b = some o) → (∀ b xs, Rd H b (.tup xs) → Rd H' b (.tup xs)) → (∀ b, av' b → av b ∨ H b = none) →
      (∀ o, RE K H' av' (env.set i none) (σ.set i o) (A1 ++ A2)) ∧ ∀ w' v' B', Own K H' av' w' v' B' → RE K H' av' (env.set i (some w')) (σ.set i (some v')) (A1 ++ (B' ++ A2))
  | [], _, _, _, _, hi => absurd hi (Nat.not_lt_zero _)
  | none :: env, σ, A, 0, h, _ => by
    obtain ⟨o, r, rfl, h⟩ := h
    refine ⟨[], [], A, rfl, fun _ => rfl, fun w e => (by simp at e), fun H' av' k t a => ⟨fun o' => ⟨o', r, rfl, RE.mono env r A k t a h⟩, fun w' v' B' ow => ⟨v', r, B', A, rfl, rfl, ow, RE.mono env r A k t a h⟩⟩⟩
  | none :: env, σ, A, i + 1, h, hi => by
    obtain ⟨o, r, rfl, h⟩ := h
    obtain ⟨A1, B, A2, eA, hn, hw, hu⟩ := RE.slot env r A i h (by simpa using hi)
    refine ⟨A1, B, A2, eA, fun e => hn (by simpa using e), fun w e => hw w (by simpa using e), fun H' av' k t a => ⟨fun o' => ⟨o, r.set i o', rfl, (hu H' av' k t a).1 o'⟩, fun w' v' B' ow => ⟨o, r.set i (some v'), rfl, (hu H' av' k t a).2 w' v' B' ow⟩⟩⟩
  | some w :: env, σ, A, 0, h, _ => by
    obtain ⟨v, r, B, D, rfl, rfl, h1, h2⟩ := h
    refine ⟨[], B, D, rfl, fun e => (by simp at e), fun w' e => ?_, fun H' av' k t a => ⟨fun o' => ⟨o', r, rfl, RE.mono env r D k t a h2⟩, fun w' v' B' ow => ⟨v', r, B', D, rfl, rfl, ow, RE.mono env r D k t a h2⟩⟩⟩
    have e' : w = w' := by simpa using e
    subst e'
    exact ⟨v, rfl, h1⟩
  | some w :: env, σ, A, i + 1, h, hi => by
    obtain ⟨v, r, B0, D, rfl, rfl, h1, h2⟩ := h
    obtain ⟨A1, B, A2, eA, hn, hw, hu⟩ := RE.slot env r D i h2 (by simpa using hi)
    subst eA
    have own : ∀ (H' : Hp) (av' : Addr → Prop), (∀ b o, H b = some o → (b ∈ (B0 ++ A1) ++ A2 ∨ ¬ av b) → H' b = some o) → (∀ b xs, Rd H b (.tup xs) → Rd H' b (.tup xs)) → (∀ b, av' b → av b ∨ H b = none) → Own K H' av' w v B0 := fun H' av' k t a =>
      Own.mono w v B0 (fun b o q c => k b o q (c.imp (fun c => List.mem_append_left _ (List.mem_append_left _ c)) id)) t a h1
    have k2 : ∀ (H' : Hp), (∀ b o, H b = some o → (b ∈ (B0 ++ A1) ++ A2 ∨ ¬ av b) → H' b = some o) → (∀ b o, H b = some o → (b ∈ A1 ++ A2 ∨ ¬ av b) → H' b = some o) := fun H' k b o q c => k b o q (c.imp (fun c => by rw [List.append_assoc]; exact List.mem_append_right _ c) id)
    refine ⟨B0 ++ A1, B, A2, by rw [List.append_assoc], fun e => hn (by simpa using e), fun w' e => hw w' (by simpa using e), fun H' av' k t a => ⟨fun o' => ⟨v, r.set i o', B0, A1 ++ A2, rfl, by rw [List.append_assoc], own H' av' k t a, (hu H' av' (k2 H' k) t a).1 o'⟩,
      fun w' v' B' ow => ⟨v, r.set i (some v'), B0, A1 ++ (B' ++ A2), rfl, by rw [List.append_assoc], own H' av' k t a, (hu H' av' (k2 H' k) t a).2 w' v' B' ow⟩⟩⟩
theorem set_same {α : Type} : ∀ {l : List α} {i : Nat} {x : α}, l[i]? = some x → l.set i x = l
  | [], _, _, h => by simp at h
  | _ :: _, 0, _, h => by simp at h; subst h; rfl
  | a :: l, i + 1, x, h => by rw [List.set_cons_succ, set_same (l := l) (i := i) (by simpa using h)]
/-- the same heap, fewer owned ones -/
theorem Rl.less (h : Rl K Rt H σ env A) (nd : A1.Nodup) (sub : ∀ b ∈ A1, b ∈ A) (re : RE K H (Av A1 Rt) env1 σ A1) : Sx K Rt σ H A H env1 A1 [] where
  go := by rw [List.append_nil]; exact Go.refl.sub sub
  nd := by rw [List.append_nil]; exact nd
  rt := by rw [List.append_nil]; exact fun b hb => h.rt b (sub b hb)
  th := h.th
  bth := fun b hb => by cases hb
  re := by rw [List.append_nil]; exact re
theorem nodup_mid {A1 B A2 : List Addr} (h : (A1 ++ (B ++ A2)).Nodup) : (A1 ++ A2).Nodup ∧ ∀ b ∈ B, b ∉ A1 ++ A2 := by
  have d := List.nodup_append.mp h
  have d2 := List.nodup_append.mp d.2.1
  refine ⟨List.nodup_append.mpr ⟨d.1, d2.2.1, fun a ha b hb e => d.2.2 a ha b (List.mem_append_right _ hb) e⟩, fun b hb z => ?_⟩
  rcases List.mem_append.mp z with z | z
  · exact d.2.2 b z b (List.mem_append_left _ hb) rfl
  · exact d2.2.2 b hb b z rfl
theorem FzL.own {av : Addr → Prop} : ∀ (ts : List T) (vs : List V), FzL K H av ts vs → OwnL K H av (ts.map W.val) vs []
  | [], _, h => ⟨h, rfl⟩
  | t :: ts, vs, h => by
    obtain ⟨v, r, e, h1, h2⟩ := h
    exact ⟨v, r, [], [], e, rfl, ⟨rfl, h1⟩, FzL.own ts r h2⟩
end
end Ev
set_option maxHeartbeats 4000000
/-! Ev3: the operations by values. -/
namespace Ev
open PySem L2

/-- a value was made: H' has all of H, and what is new -/
structure Mk (K : PySem.W.Frag) (H : Hp) (av : Addr → Prop) (w : W) (v : V) (H' : Hp) (B : List Addr) : Prop where
  ext : ∀ b o, H b = some o → H' b = some o
  nd : B.Nodup
  fresh : ∀ b ∈ B, H b = none
  own : Own K H' (fun b => b ∈ B ∨ av b) w v B
section
variable {K : PySem.W.Frag} {H : Hp} {av : Addr → Prop} {t : T} {v : V}
theorem Mk.same (h : Fz K H av t v) : Mk K H av (.val t) v H [] :=
  ⟨fun _ _ q => q, List.nodup_nil, fun b hb => (by cases hb), ⟨rfl, Fz.mono (fun _ _ q _ => q) (fun _ _ q => q) (fun b z => .inl (z.elim (fun z => (by cases z)) id)) t v h⟩⟩
theorem Mk.int (i : Int) : Mk K H av (.val (.int i)) (.int i) H [] := Mk.same rfl
theorem Mk.bl (b : Bool) : Mk K H av (.val (.bl b)) (.bl b) H [] := Mk.same rfl
theorem Mk.lst {p : Addr} {xs : List V} {ws : List W} (hp : H p = none) (h : OwnL K H av ws xs []) : Mk K H av (.lst ws) (.ref p) (upd H p (.lst xs)) [p] where
  ext := fun b o q => newkeep hp b o q
  nd := List.nodup_cons.mpr ⟨fun z => (by cases z), List.nodup_nil⟩
  fresh := fun b hb => by
    rcases List.mem_cons.mp hb with rfl | z
    · exact hp
    · cases z
  own := ⟨p, xs, [], rfl, rfl, upd_same, OwnL.mono ws xs [] (fun b o q _ => newkeep hp b o q) (newtups hp) (fun b z => by
    rcases z with z | z
    · rcases List.mem_cons.mp z with rfl | z
      · exact .inr hp
      · cases z
    · exact .inl z) h⟩
theorem Mk.fzl {p : Addr} {xs : List V} {ts : List T} (hp : H p = none) (h : FzL K H av ts xs) : Mk K H av (.lst (ts.map .val)) (.ref p) (upd H p (.lst xs)) [p] := Mk.lst hp (FzL.own ts xs h)
theorem Mk.tup {p : Addr} {xs : List V} {ts : List T} (hp : H p = none) (h : FzL K H av ts xs) : Mk K H av (.val (.tup ts)) (.ref p) (upd H p (.tup xs)) [] where
  ext := fun b o q => newkeep hp b o q
  nd := List.nodup_nil
  fresh := fun b hb => by cases hb
  own := ⟨rfl, p, xs, rfl, SqT.of upd_same, FzL.mono (fun b o q _ => newkeep hp b o q) (newtups hp) (fun b z => .inl (z.elim (fun z => by cases z) id)) ts xs h⟩
theorem FzL.append {ts us : List T} {xs ys : List V} (h1 : FzL K H av ts xs) (h2 : FzL K H av us ys) : FzL K H av (ts ++ us) (xs ++ ys) := by
  induction ts generalizing xs with
  | nil => cases (show xs = [] from h1); exact h2
  | cons t ts ih =>
    obtain ⟨v, r, rfl, a, b⟩ := h1
    exact ⟨v, r ++ ys, rfl, a, ih b⟩
theorem FzL.len {ts : List T} {xs : List V} (h1 : FzL K H av ts xs) : ts.length = xs.length := by
  induction ts generalizing xs with
  | nil => cases (show xs = [] from h1); rfl
  | cons t ts ih =>
    obtain ⟨v, r, rfl, a, b⟩ := h1
    rw [List.length_cons, List.length_cons, ih b]
theorem FzL.get {ts : List T} {xs : List V} {i : Nat} {t : T} (h1 : FzL K H av ts xs) (e : ts[i]? = some t) : ∃ v, xs[i]? = some v ∧ Fz K H av t v := by
  induction ts generalizing xs i with
  | nil => simp at e
  | cons u ts ih =>
    obtain ⟨v, r, rfl, a, b⟩ := h1
    cases i with
    | zero => simp at e; subst e; exact ⟨v, rfl, a⟩
    | succ i => exact ih (i := i) b (by simpa using e)
theorem FzL.drop {ts : List T} {xs : List V} (h : FzL K H av ts xs) : ∀ n, FzL K H av (ts.drop n) (xs.drop n) := by
  induction ts generalizing xs with
  | nil => intro n; cases (show xs = [] from h); simp; rfl
  | cons t ts ih =>
    obtain ⟨v, r, rfl, a, b⟩ := h
    intro n
    cases n with
    | zero => exact ⟨v, r, rfl, a, b⟩
    | succ n => exact ih b n
theorem FzL.take {ts : List T} {xs : List V} (h : FzL K H av ts xs) : ∀ n, FzL K H av (ts.take n) (xs.take n) := by
  induction ts generalizing xs with
  | nil => intro n; cases (show xs = [] from h); simp; rfl
  | cons t ts ih =>
    obtain ⟨v, r, rfl, a, b⟩ := h
    intro n
    cases n with
    | zero => rfl
    | succ n => exact ⟨v, r.take n, rfl, a, ih b n⟩
theorem FzL.ints {ts : List T} {xs : List V} {is : List Int} (h : FzL K H av ts xs) (e : T.ints ts = some is) : xs = is.map V.int := by
  induction ts generalizing xs is with
  | nil => cases (show xs = [] from h); cases e; rfl
  | cons t ts ih =>
    obtain ⟨v, r, rfl, a, b⟩ := h
    cases t with
    | int i =>
      obtain ⟨js, e1, e2⟩ := Option.map_eq_some_iff.mp (show (T.ints ts).map (i :: ·) = some is from e)
      subst e2
      rw [ih b e1, show v = V.int i from a]
      rfl
    | _ => cases e
theorem FzL.bls {ts : List T} {xs : List V} {bs : List Bool} (h : FzL K H av ts xs) (e : T.bls ts = some bs) : xs = bs.map V.bl := by
  induction ts generalizing xs bs with
  | nil => cases (show xs = [] from h); cases e; rfl
  | cons t ts ih =>
    obtain ⟨v, r, rfl, a, b⟩ := h
    cases t with
    | bl i =>
      obtain ⟨js, e1, e2⟩ := Option.map_eq_some_iff.mp (show (T.bls ts).map (i :: ·) = some bs from e)
      subst e2
      rw [ih b e1, show v = V.bl i from a]
      rfl
    | _ => cases e
mutual
theorem Fz.dp : ∀ (t : T) (v : V) (d : PyData), t.pd = some d → Fz K H av t v → Dp K H v d
  | .non, v, d, e, h => by cases e; cases (show v = _ from h); exact .non
  | .bl b, v, d, e, h => by cases e; cases (show v = _ from h); exact .bl b
  | .int i, v, d, e, h => by cases e; cases (show v = _ from h); exact .int i
  | .str x, v, d, e, h => by cases e; cases (show v = _ from h); exact .str x
  | .tup ts, v, d, e, h => by
    obtain ⟨ds, e1, rfl⟩ := Option.map_eq_some_iff.mp (show (pds ts).map PyData.tuple = some d from e)
    obtain ⟨a, xs, rfl, hs, hl⟩ := h
    exact .tup hs (FzL.dp ts xs ds e1 hl)
  | .lst ts, v, d, e, h => by
    obtain ⟨ds, e1, rfl⟩ := Option.map_eq_some_iff.mp (show (pds ts).map PyData.list = some d from e)
    obtain ⟨a, xs, rfl, hs, _, hl⟩ := h
    exact .lst (.inl hs) (FzL.dp ts xs ds e1 hl)
  | .ty _, _, _, e, _ => by cases e
  | .gl _, _, _, e, _ => by cases e
  | .dct _ _, _, _, e, _ => by cases e
  | .set _, _, _, e, _ => by cases e
  | .ins _ _ _, _, _, e, _ => by cases e
theorem FzL.dp : ∀ (ts : List T) (vs : List V) (ds : List PyData), pds ts = some ds → FzL K H av ts vs → DpAll K H vs ds
  | [], vs, ds, e, h => by cases e; cases (show vs = [] from h); exact .nil
  | t :: ts, vs, ds, e, h => by
    obtain ⟨v, r, rfl, h1, h2⟩ := h
    have e' : (match t.pd, pds ts with | some d, some ds => some (d :: ds) | _, _ => none) = some ds := e
    cases e1 : t.pd with
    | none => rw [e1] at e'; cases e'
    | some d =>
      rw [e1] at e'
      cases e2 : pds ts with
      | none => rw [e2] at e'; cases e'
      | some ds' =>
        rw [e2] at e'
        cases e'
        exact .cons (Fz.dp t v d e1 h1) (FzL.dp ts r ds' e2 h2)
end
end

/-! ### two operands -/
def rP2 (K : PySem.W.Frag) (f : T → T → Option W) : R2 := fun x y H Q => ∃ av tx ty w, Fz K H av tx x ∧ Fz K H av ty y ∧ f tx ty = some w ∧ ∀ v H' B, Mk K H av w v H' B → Q v H'
def rP1 (K : PySem.W.Frag) (f : T → Option W) : V → Hp → VK → Prop := fun x H Q => ∃ av tx w, Fz K H av tx x ∧ f tx = some w ∧ ∀ v H' B, Mk K H av w v H' B → Q v H'
def rPL (K : PySem.W.Frag) (f : List T → Option W) : List V → Hp → VK → Prop := fun xs H Q => ∃ av ts w, FzL K H av ts xs ∧ f ts = some w ∧ ∀ v H' B, Mk K H av w v H' B → Q v H'
section
variable {X : Cx}
theorem OpR.imp {f : Value → Value → Sem Value} {r r' : R2} (h : OpR X f r) (i : ∀ x y H Q, r' x y H Q → r x y H Q) : OpR X f r' :=
  fun pins s σ H x y v u Q I rx ry q => h pins s σ H x y v u Q I rx ry (i x y H Q q)
theorem mulOk_ok {i j : Int} (h : mulOk i j = true) : CMul i j := by
  unfold mulOk at h
  simp only [Bool.or_eq_true, Bool.and_eq_true, decide_eq_true_eq] at h
  unfold CMul
  omega
theorem Inv.lstR {pins : List (Addr × Obj)} {σ : St} {H : Hp} {s : Shared} {l : Addr} {xs : List V} (I : Inv X pins σ H s) (h : Rd H l (.lst xs)) :
    xs.length ≤ sizeLine ∧ ∃ (its : List Value) (n : Nat), Vals xs its ∧ xs.length = its.length ∧ s.heap.get? l = some { cls := .type "list", data := .seq its.toArray n } := by
  obtain ⟨z, its, n, r, e⟩ := h.ok I.hok
  exact ⟨z, its, n, r, r.length, e⟩
theorem op_catR : OpR X (binaryOp .Add) (fun x y H Q => ∃ l b xs zs, x = .ref l ∧ y = .ref b ∧ Rd H l (.lst xs) ∧ Rd H b (.lst zs) ∧ xs.length + zs.length ≤ sizeLine ∧ ∀ p, H p = none → Q (.ref p) (upd H p (.lst (xs ++ zs)))) := by
  intro pins s σ H x y v u Q I rx ry h
  obtain ⟨l, b, xs, zs, rfl, rfl, hH, hB, hz, q⟩ := h
  cases rx
  cases ry
  obtain ⟨z, its, n, r, hl, e⟩ := Ev.Inv.lstR I hH
  obtain ⟨z2, its2, n2, r2, hl2, e2⟩ := Ev.Inv.lstR I hB
  refine PySem.P.add_list e e2 ?_ (by rw [List.size_toArray, List.size_toArray]; omega)
  have ea : its.toArray ++ its2.toArray = (its ++ its2).toArray := by simp
  rw [ea]
  exact ⟨.ref _, _, I.lnew (t' := s.toks) (r.append r2) (by rw [List.length_append]; omega), rfl, q _ I.fresh⟩
/-- an operator -/
theorem op_all (o : Operator) : OpR X (binaryOp o) (rP2 X.K (opT o)) := by
  intro pins s σ H x y v u Q I rx ry h
  obtain ⟨av, tx, ty, w, hx, hy, e, q⟩ := h
  have intc : ∀ (i j : Int), tx = .int i → ty = .int j → wpAny (model X.prog X.w) X.A (binaryOp o v u) (EP X pins σ Q) X.xe s := by
    intro i j e1 e2
    subst e1 e2
    cases (show x = .int i from hx)
    cases (show y = .int j from hy)
    obtain ⟨k, ek, ew⟩ := Option.map_eq_some_iff.mp (show (opInt o i j).map (fun k => W.val (.int k)) = some w from e)
    subst ew
    have fin : Q (.int k) H := q (.int k) H [] (Mk.int k)
    cases o with
    | Add => cases ek; exact op_add pins s σ H _ _ v u Q I rx ry ⟨i, j, rfl, rfl, fin⟩
    | Sub => cases ek; exact op_sub pins s σ H _ _ v u Q I rx ry ⟨i, j, rfl, rfl, fin⟩
    | Mult =>
      have ek' : (if mulOk i j = true then some (i * j) else none) = some k := ek
      by_cases c : mulOk i j = true
      · rw [if_pos c] at ek'; cases ek'
        exact op_mul pins s σ H _ _ v u Q I rx ry ⟨i, j, rfl, rfl, mulOk_ok c, fin⟩
      · rw [if_neg c] at ek'; cases ek'
    | FloorDiv =>
      have ek' : (if (decide (0 < j) && decide (j < 1073741824)) = true then some (i / j) else none) = some k := ek
      by_cases c : (decide (0 < j) && decide (j < 1073741824)) = true
      · rw [if_pos c] at ek'; cases ek'
        simp only [Bool.and_eq_true, decide_eq_true_eq] at c
        exact op_fdiv pins s σ H _ _ v u Q I rx ry ⟨i, j, rfl, rfl, c, fin⟩
      · rw [if_neg c] at ek'; cases ek'
    | Mod =>
      have ek' : (if decide (0 < j) = true then some (i % j) else none) = some k := ek
      by_cases c : decide (0 < j) = true
      · rw [if_pos c] at ek'; cases ek'
        exact op_mod pins s σ H _ _ v u Q I rx ry ⟨i, j, rfl, rfl, of_decide_eq_true c, fin⟩
      · rw [if_neg c] at ek'; cases ek'
    | Pow =>
      have ek' : (if (decide (0 ≤ j) && decide (j ≤ 1000000) && decide (i.natAbs < 18446744073709551616)) = true then some (i ^ j.toNat) else none) = some k := ek
      by_cases c : (decide (0 ≤ j) && decide (j ≤ 1000000) && decide (i.natAbs < 18446744073709551616)) = true
      · rw [if_pos c] at ek'; cases ek'
        simp only [Bool.and_eq_true, decide_eq_true_eq] at c
        exact op_pow pins s σ H _ _ v u Q I rx ry ⟨i, j, rfl, rfl, ⟨c.1.1, c.1.2, c.2⟩, fin⟩
      · rw [if_neg c] at ek'; cases ek'
    | _ => cases ek
  cases tx with
  | int i =>
    cases ty with
    | int j => exact intc i j rfl rfl
    | _ => cases e
  | lst ts =>
    cases ty with
    | lst us =>
      cases o with
      | Add =>
        have e' : (if decide (ts.length + us.length ≤ 16777216) = true then some (W.lst ((ts ++ us).map .val)) else none) = some w := e
        by_cases c : decide (ts.length + us.length ≤ 16777216) = true
        · rw [if_pos c] at e'; cases e'
          have c := of_decide_eq_true c
          obtain ⟨a, xs, rfl, ha, _, hl⟩ := hx
          obtain ⟨b, ys, rfl, hb, _, hm⟩ := hy
          refine op_catR pins s σ H _ _ v u Q I rx ry ⟨a, b, xs, ys, rfl, rfl, ha, hb, ?_, fun p hp => q _ _ _ (Mk.fzl hp (hl.append hm))⟩
          rw [sizeLine_eq, ← hl.len, ← hm.len]
          exact c
        · rw [if_neg c] at e'; cases e'
      | _ => cases e
    | _ => cases e
  | _ => cases e
/-- a comparison -/
theorem cmp_all (hu : X.A.units + 64 < cLine) (o : CmpOp) : OpR X (compareOp o) (rP2 X.K fun a b => (cmpT o a b).map fun b => .val (.bl b)) := by
  intro pins s σ H x y v u Q I rx ry h
  obtain ⟨av, tx, ty, w, hx, hy, e, q⟩ := h
  obtain ⟨k, ek, ew⟩ := Option.map_eq_some_iff.mp e
  subst ew
  have fin : Q (.bl k) H := q (.bl k) H [] (Mk.bl k)
  have eqs : ∀ (b : Bool), eqT tx ty = some b → ∃ d e', Dp X.K H x d ∧ Dp X.K H y e' ∧ SeqAt.shaped d = true ∧ SeqAt.shaped e' = true ∧ PyData.eqv d e' = b := by
    intro b eb
    unfold eqT at eb
    cases e1 : tx.pd with
    | none => rw [e1] at eb; cases eb
    | some d =>
      cases e2 : ty.pd with
      | none => rw [e1, e2] at eb; cases eb
      | some d2 =>
        rw [e1, e2] at eb
        have eb' : (if (SeqAt.shaped d && SeqAt.shaped d2) = true then some (PyData.eqv d d2) else none) = some b := eb
        by_cases c : (SeqAt.shaped d && SeqAt.shaped d2) = true
        · rw [if_pos c] at eb'
          rw [Bool.and_eq_true] at c
          exact ⟨d, d2, Fz.dp tx x d e1 hx, Fz.dp ty y d2 e2 hy, c.1, c.2, Option.some.inj eb'⟩
        · rw [if_neg c] at eb'; cases eb'
  have intc : ∀ (i j : Int), tx = .int i → ty = .int j → cmpInt o i j = some k → wpAny (model X.prog X.w) X.A (compareOp o v u) (EP X pins σ Q) X.xe s := by
    intro i j e1 e2 ec
    subst e1 e2
    cases (show x = .int i from hx)
    cases (show y = .int j from hy)
    cases o with
    | Lt => cases ec; exact op_lt pins s σ H _ _ v u Q I rx ry ⟨i, j, rfl, rfl, fin⟩
    | LtE => cases ec; exact op_le pins s σ H _ _ v u Q I rx ry ⟨i, j, rfl, rfl, fin⟩
    | Gt => cases ec; exact op_gt pins s σ H _ _ v u Q I rx ry ⟨i, j, rfl, rfl, fin⟩
    | GtE => cases ec; exact op_ge pins s σ H _ _ v u Q I rx ry ⟨i, j, rfl, rfl, fin⟩
    | _ => cases ec
  have rest : cmpI2 o tx ty = some k → wpAny (model X.prog X.w) X.A (compareOp o v u) (EP X pins σ Q) X.xe s := by
    intro er
    cases tx with
    | int i =>
      cases ty with
      | int j => exact intc i j rfl rfl er
      | _ => cases er
    | _ => cases er
  have isn : ∀ {t : T} {z : V}, Fz X.K H av t z → decide (z = .non) = t.isN := by
    intro t z hz
    cases t with
    | non => cases (show z = _ from hz); rfl
    | bl b => cases (show z = _ from hz); rfl
    | int b => cases (show z = _ from hz); rfl
    | str b => cases (show z = _ from hz); rfl
    | ty b => cases (show z = _ from hz); rfl
    | gl b => cases hz
    | tup ts => obtain ⟨a, xs, rfl, _⟩ := hz; rfl
    | lst ts => obtain ⟨a, xs, rfl, _⟩ := hz; rfl
    | set ts => obtain ⟨a, S, n, is, rfl, _⟩ := hz; rfl
    | dct _ _ => cases hz
    | ins _ _ _ => cases hz
    | scr is => obtain ⟨a, rfl, _⟩ := hz; rfl
  have non : ty.isN = true → y = .non := fun z => by
    have := isn hy
    rw [z] at this
    exact of_decide_eq_true this
  cases o with
  | Eq =>
    obtain ⟨d, e', h1, h2, h3, h4, h5⟩ := eqs k ek
    exact op_eqD hu pins s σ H x y v u Q I rx ry ⟨d, e', h1, h2, h3, h4, by rw [h5]; exact fin⟩
  | NotEq =>
    obtain ⟨b, eb, ekb⟩ := Option.map_eq_some_iff.mp (show (eqT tx ty).map (!·) = some k from ek)
    obtain ⟨d, e', h1, h2, h3, h4, h5⟩ := eqs b eb
    exact op_neD hu pins s σ H x y v u Q I rx ry ⟨d, e', h1, h2, h3, h4, by rw [h5, ekb]; exact fin⟩
  | Lt => exact rest ek
  | LtE => exact rest ek
  | Gt => exact rest ek
  | GtE => exact rest ek
  | Is =>
    have ek' : (if ty.isN = true then some tx.isN else none) = some k := ek
    by_cases c : ty.isN = true
    · rw [if_pos c] at ek'
      cases ek'
      exact op_isN pins s σ H x y v u Q I rx ry ⟨non c, by rw [isn hx]; exact fin⟩
    · rw [if_neg c] at ek'; cases ek'
  | IsNot =>
    have ek' : (if ty.isN = true then some (!tx.isN) else none) = some k := ek
    by_cases c : ty.isN = true
    · rw [if_pos c] at ek'
      cases ek'
      exact op_notN pins s σ H x y v u Q I rx ry ⟨non c, by rw [isn hx]; exact fin⟩
    · rw [if_neg c] at ek'; cases ek'
  | In => exact rest ek
  | NotIn => exact rest ek
theorem neg_all : UnR X (unaryOp .USub) (rP1 X.K fun t => match t with | .int i => some (.val (.int (-i))) | _ => none) := by
  intro pins s σ H x v Q I rx h
  obtain ⟨av, tx, w, hx, e, q⟩ := h
  cases tx with
  | int i =>
    cases e
    cases (show x = .int i from hx)
    exact un_neg pins s σ H _ v Q I rx ⟨i, rfl, q _ _ _ (Mk.int _)⟩
  | _ => cases e
theorem scr_sq {K : PySem.W.Frag} {H : Hp} {av : Addr → Prop} {a : Addr} {xs : List V} (h : (Rd H a (.lst xs) ∧ ¬ av a) ∨ SqL K (fun _ => none) a xs) : SqL K H a xs := by
  rcases h with ⟨h, _⟩ | h
  · exact .inl h
  · rcases h with h | h
    · rcases h with h | ⟨o, h⟩ <;> cases h
    · exact .inr h
/-- a subscript -/
theorem ix_all : IxR X (rP2 X.K fun a b => (ixT a b).map .val) := by
  intro value slice pins s σ H x y v u Q I rx ry h hs
  obtain ⟨av, tx, ty, w, hx, hy, e, q⟩ := h
  obtain ⟨t, et, ew⟩ := Option.map_eq_some_iff.mp e
  subst ew
  have at_ : ∀ {ts : List T} {xs : List V} {i : Int}, FzL X.K H av ts xs → atI ts i = some t → ∃ z, atI xs i = some z ∧ Fz X.K H av t z := by
    intro ts xs i hl ea
    unfold atI at ea ⊢
    rw [← hl.len]
    cases en : L2.ixN ts.length i with
    | none => rw [en] at ea; cases ea
    | some j =>
      rw [en] at ea
      exact hl.get ea
  cases tx with
  | lst ts =>
    cases ty with
    | int i =>
      cases (show y = .int i from hy)
      obtain ⟨a, xs, rfl, ha, _, hl⟩ := hx
      obtain ⟨z, e1, e2⟩ := at_ hl et
      exact ix_list value slice pins s σ H _ _ v u Q I rx ry ⟨a, xs, i, z, rfl, rfl, .inl ha, e1, q _ _ _ (Mk.same e2)⟩ hs
    | _ => cases et
  | tup ts =>
    cases ty with
    | int i =>
      cases (show y = .int i from hy)
      obtain ⟨a, xs, rfl, ha, hl⟩ := hx
      obtain ⟨z, e1, e2⟩ := at_ hl et
      exact ix_tup value slice pins s σ H _ _ v u Q I rx ry ⟨a, xs, i, z, rfl, rfl, ha, e1, q _ _ _ (Mk.same e2)⟩ hs
    | _ => cases et
  | scr is =>
    cases ty with
    | int i =>
      cases (show y = .int i from hy)
      obtain ⟨a, rfl, ha⟩ := hx
      obtain ⟨k, e1, e2⟩ := Option.map_eq_some_iff.mp (show (atI is i).map T.int = some t from et)
      subst e2
      have hs' : SqL X.K H a (is.map V.int) := scr_sq ha
      have ea : atI (is.map V.int) i = some (.int k) := by
        unfold atI at e1 ⊢
        rw [List.length_map]
        cases en : L2.ixN is.length i with
        | none => rw [en] at e1; cases e1
        | some j =>
          rw [en] at e1
          show (is.map V.int)[j]? = _
          rw [List.getElem?_map, show is[j]? = some k from e1]
          rfl
      exact ix_list value slice pins s σ H _ _ v u Q I rx ry ⟨a, _, i, _, rfl, rfl, hs', ea, q _ _ _ (Mk.same rfl)⟩ hs
    | _ => cases et
  | _ => cases et
/-- truth -/
theorem tru_all {K : PySem.W.Frag} {H : Hp} {av : Addr → Prop} {t : T} {v : V} {b : Bool} (h : Fz K H av t v) (e : t.tru = some b) : TruV K v H b := by
  cases t with
  | non => cases e; cases (show v = _ from h); rfl
  | bl c => cases e; cases (show v = _ from h); rfl
  | int i => cases e; cases (show v = _ from h); rfl
  | lst ts =>
    cases e
    obtain ⟨a, xs, rfl, ha, _, hl⟩ := h
    refine .inl ⟨xs, .inl ha, ?_⟩
    have := hl.len
    cases ts <;> cases xs <;> first | rfl | simp at this
  | tup ts =>
    cases e
    obtain ⟨a, xs, rfl, ha, hl⟩ := h
    refine .inr (.inl ⟨xs, ha, ?_⟩)
    have := hl.len
    cases ts <;> cases xs <;> first | rfl | simp at this
  | _ => cases e
end
end Ev
set_option maxHeartbeats 4000000
/-! Ev4: readings by the evaluator; expressions. -/
namespace Ev
open PySem L2

/-- how an exception lies: its class, its value, the heap, who owns what, the model's class and its dict -/
abbrev XR := Nat → T → Hp → (Addr → Prop) → Value → Option Addr → Prop
/-- the static part of a context: constants, calls, how exceptions lie, what is wanted of them -/
structure Cfg where
  G : Nat → Option T
  C : Calls
  xr : XR
  W : WX
  xm : ∀ c t H (av av' : Addr → Prop) cls d, (∀ b, av' b → av b) → xr c t H av cls d → xr c t H av' cls d
section
variable (K : PySem.W.Frag) (g : Cfg)
def Post {α β : Type} (P : α → β → Hp → (Addr → Prop) → List Addr → Prop) (Rt : Addr → Prop) (σ : St) (H : Hp) (A : List Addr) (r : R α) (Q : β → Hp → Prop) : Prop := match r with
  | .ok a env => ∀ b H' A' B, Sx K Rt σ H A H' env A' B → P a b H' (Av (A' ++ B) Rt) B → Q b H'
  | .exc c t env => ∀ cls d H' A', Sx K Rt σ H A H' env A' [] → g.xr c t H' (Av (A' ++ []) Rt) cls d → g.W cls d σ H'
  | .no => False
def PO1 : W → V → Hp → (Addr → Prop) → List Addr → Prop := fun w v H av B => Own K H av w v B
def POL : List W → List V → Hp → (Addr → Prop) → List Addr → Prop := fun ws vs H av B => OwnL K H av ws vs B
def PBl : Bool → Bool → Hp → (Addr → Prop) → List Addr → Prop := fun a b _ _ B => b = a ∧ B = []
def POI : Option Int → Option Int → Hp → (Addr → Prop) → List Addr → Prop := fun a b _ _ B => b = a ∧ B = []
def tE (e : E) : TE := fun σ H Q => ∃ Rt env A, Rl K Rt H σ env A ∧ Post K g (PO1 K) Rt σ H A (evE g.G g.C e env) Q
def tT (e : Tt) : TT := fun σ H Q => ∃ Rt env A, Rl K Rt H σ env A ∧ Post K g PBl Rt σ H A (evT g.G g.C e env) Q
def tTs (e : Tts) : TT := fun σ H Q => ∃ Rt env A, Rl K Rt H σ env A ∧ Post K g PBl Rt σ H A (evTs g.G g.C e env) Q
def tEs (e : Es) : TA := fun σ H Q => ∃ Rt env A, Rl K Rt H σ env A ∧ Post K g (POL K) Rt σ H A (evEs g.G g.C e env) Q
def tO (e : Eo) : TO := fun σ H Q => ∃ Rt env A, Rl K Rt H σ env A ∧ Post K g POI Rt σ H A (evO g.G g.C e env) Q
end
theorem PE.imp {X : Cx} {e : Expr} {t t' : TE} (h : PE X e t) (i : ∀ σ H Q, t' σ H Q → t σ H Q) : PE X e t' := ⟨fun pins s σ H Q I q => h.run pins s σ H Q I (i σ H Q q)⟩
theorem PT.imp {X : Cx} {e : Expr} {t t' : TT} (h : PT X e t) (i : ∀ σ H Q, t' σ H Q → t σ H Q) : PT X e t' := ⟨fun pins s σ H Q I q => h.run pins s σ H Q I (i σ H Q q)⟩
theorem PW.imp {X : Cx} {e : Expr} {t t' : TT} (h : PW X e t) (i : ∀ σ H Q, t' σ H Q → t σ H Q) : PW X e t' := ⟨fun wh pins s σ H Q I q => h.run wh pins s σ H Q I (i σ H Q q)⟩
theorem PA.imp {X : Cx} {e : List Expr} {t t' : TA} (h : PA X e t) (i : ∀ σ H Q, t' σ H Q → t σ H Q) : PA X e t' := ⟨fun pos pins s σ H Q I q => h.run pos pins s σ H Q I (i σ H Q q)⟩
section
variable {K : PySem.W.Frag} {g : Cfg} {α β γ δ : Type} {Pa : α → β → Hp → (Addr → Prop) → List Addr → Prop} {Pc : γ → δ → Hp → (Addr → Prop) → List Addr → Prop}
variable {Rt : Addr → Prop} {σ : St} {H H1 H2 : Hp} {A A1 A2 B B1 B2 : List Addr} {env env1 env2 : Env} {r : R α} {f : α → Env → R γ} {Q : δ → Hp → Prop} {Q1 : β → Hp → Prop}
/-- the first of two -/
theorem Post.seq (h : Post K g Pc Rt σ H A (r.bind f) Q) (k : ∀ a e1 b H1 A1 B1, Sx K Rt σ H A H1 e1 A1 B1 → Pa a b H1 (Av (A1 ++ B1) Rt) B1 → Post K g Pc Rt σ H A (f a e1) Q → Q1 b H1) : Post K g Pa Rt σ H A r Q1 := by
  cases r with
  | ok a e1 => exact fun b H' A' B' sx p => k a e1 b H' A' B' sx p h
  | exc c t e1 => exact h
  | no => exact h
/-- a later one: s1 leads to where it begins -/
theorem Post.seq2 (s1 : Sx K Rt σ H A H1 env1 A1 B1) (h : Post K g Pc Rt σ H A (r.bind f) Q)
    (k : ∀ a e2 b H2 A2 B2, Sx K (RtB B1 Rt) σ H1 A1 H2 e2 A2 B2 → Pa a b H2 (Av (A2 ++ B2) (RtB B1 Rt)) B2 → Post K g Pc Rt σ H A (f a e2) Q → Q1 b H2) : Post K g Pa (RtB B1 Rt) σ H1 A1 r Q1 := by
  cases r with
  | ok a e1 => exact fun b H' A' B' sx p => k a e1 b H' A' B' sx p h
  | exc c t e1 =>
    refine fun cls d H' A' sx p => h cls d H' A' (s1.next sx).drop0 (g.xm c t H' _ _ cls d (fun b z => ?_) p)
    rcases z with z | z
    · exact .inl z
    · exact .inr (.inr z)
  | no => exact h
theorem Post.of {o : Option α} (h : Post K g Pa Rt σ H A (R.of o env) Q1) : ∃ a, o = some a ∧ Post K g Pa Rt σ H A (.ok a env) Q1 := by
  cases o with
  | none => exact h.elim
  | some a => exact ⟨a, rfl, h⟩
/-- an end by a made value -/
theorem Sx.made {w : W} {v : V} (s1 : Sx K Rt σ H A H1 env1 A1 B1) (m : Mk K H1 (Av (A1 ++ []) Rt) w v H2 B) : Sx K Rt σ H A H2 env1 A1 B ∧ Own K H2 (Av (A1 ++ B) Rt) w v B := by
  have eq : ∀ b, Av (A1 ++ B) Rt b ↔ (b ∈ B ∨ Av (A1 ++ []) Rt b) := fun b => by
    unfold Av
    rw [List.append_nil, List.mem_append]
    constructor
    · rintro ((z | z) | z)
      · exact .inr (.inl z)
      · exact .inl z
      · exact .inr (.inr z)
    · rintro (z | z | z)
      · exact .inl (.inr z)
      · exact .inl (.inl z)
      · exact .inr z
  have hA : ∀ b ∈ A1, ∃ o, H1 b = some o := fun b hb => by
    obtain ⟨o, q, _⟩ := RE.there _ _ _ s1.re b hb
    exact ⟨o, q⟩
  have nA : ∀ b ∈ B, b ∉ A1 := fun b hb z => by
    obtain ⟨o, q⟩ := hA b z
    rw [m.fresh b hb] at q; cases q
  have s0 := s1.drop0
  refine ⟨⟨⟨fun b o q n => m.ext b o (s0.go.keep b o q n), fun b xs q => Rd.mono (s0.go.tups b xs q) fun o q => m.ext b o q, fun b hb => ?_⟩, ?_, fun b hb z => ?_, fun b z q => ?_, fun b hb q => ?_, ?_⟩, ?_⟩
  · rcases List.mem_append.mp hb with hb | hb
    · exact s0.go.new b (List.mem_append_left _ hb)
    · by_cases ha : b ∈ A
      · exact .inl ha
      · cases q : H b with
        | none => exact .inr rfl
        | some o =>
          have := s0.go.keep b o q ha
          rw [m.fresh b hb] at this
          cases this
  · exact List.nodup_append.mpr ⟨(List.nodup_append.mp s0.nd).1, m.nd, fun a ha b hb e => nA b hb (e ▸ ha)⟩
  · rcases List.mem_append.mp hb with hb | hb
    · exact s0.rt b (List.mem_append_left _ hb) z
    · exact s0.th b z (m.fresh b hb)
  · cases e : H1 b with
    | none => exact s0.th b z e
    | some o => rw [m.ext b o e] at q; cases q
  · obtain ⟨o, q', _⟩ := Own.there w v B m.own b hb
    rw [q] at q'; cases q'
  · exact RE.mono env1 σ A1 (fun b o q _ => m.ext b o q) (fun b xs q => Rd.mono q fun o q => m.ext b o q) (fun b z => by
      rcases (eq b).mp z with z | z
      · exact .inr (m.fresh b z)
      · exact .inl z) s0.re
  · exact Own.mono w v B (fun b o q _ => q) (fun _ _ q => q) (fun b z => .inl ((eq b).mp z)) m.own
end

/-! ### expressions -/
section
variable {X : Cx} {g : Cfg} {pos : Pos} {a b c : Expr} {ia ib ic : E}
theorem snd_int {i : Int} {j : Nat} : PE X (.Constant (.int i) j pos) (tE X.K g (.int i)) :=
  PE.imp pe_int fun σ H Q ⟨Rt, env, A, rl, p⟩ => p (.int i) H A [] rl.sx ⟨rfl, rfl⟩
theorem snd_bl {i : Bool} {j : Nat} : PE X (.Constant (.bool i) j pos) (tE X.K g (.bl i)) :=
  PE.imp pe_bl fun σ H Q ⟨Rt, env, A, rl, p⟩ => p (.bl i) H A [] rl.sx ⟨rfl, rfl⟩
theorem snd_non {j : Nat} : PE X (.Constant .none j pos) (tE X.K g .non) :=
  PE.imp pe_non fun σ H Q ⟨Rt, env, A, rl, p⟩ => p .non H A [] rl.sx ⟨rfl, rfl⟩
theorem snd_str {x : Str} {j : Nat} : PE X (.Constant (.str x) j pos) (tE X.K g (.str x)) :=
  PE.imp pe_str fun σ H Q ⟨Rt, env, A, rl, p⟩ => p (.str x) H A [] rl.sx ⟨rfl, rfl⟩
/-- two operands, then an operation by values -/
theorem two_ev {f : T → T → Option W} {i : E} (ev : ∀ env, evE g.G g.C i env = (evE g.G g.C ia env).bind fun x env1 => (evE g.G g.C ib env1).bind fun y env2 => R.of (f x.fz y.fz) env2)
    {σ : St} {H : Hp} {Q : VK} (h : tE X.K g i σ H Q) : tOp (rP2 X.K f) (tE X.K g ia) (tE X.K g ib) σ H Q := by
  obtain ⟨Rt, env, A, rl, p⟩ := h
  rw [ev] at p
  refine ⟨Rt, env, A, rl, Post.seq p fun x e1 v1 H1 A1 B1 s1 o1 p1 => ?_⟩
  refine ⟨RtB B1 Rt, e1, A1, s1.rl, Post.seq2 s1 p1 fun y e2 v2 H2 A2 B2 s2 o2 p2 => ?_⟩
  obtain ⟨w, ew, p3⟩ := Post.of p2
  have s3 := s1.next s2
  have w1 : Own X.K H2 (Av (A2 ++ (B1 ++ B2)) Rt) x v1 B1 := s1.own s2 o1
  have w2 : Own X.K H2 (Av (A2 ++ (B1 ++ B2)) Rt) y v2 B2 := Sx.own2 o2
  refine ⟨Av (A2 ++ []) Rt, x.fz, y.fz, w, ?_, ?_, ew, fun v H' B mk => ?_⟩
  · exact Own.fz (Sx.avs fun b hb => by cases hb) x v1 B1 (fun b hb z => by
      rcases z with z | z
      · rw [List.append_nil] at z; exact s3.out (List.mem_append_left _ hb) z
      · exact s3.rt b (List.mem_append_right _ (List.mem_append_left _ hb)) z) w1
  · exact Own.fz (Sx.avs fun b hb => by cases hb) y v2 B2 (fun b hb z => by
      rcases z with z | z
      · rw [List.append_nil] at z; exact s3.out (List.mem_append_right _ hb) z
      · exact s3.rt b (List.mem_append_right _ (List.mem_append_right _ hb)) z) w2
  · obtain ⟨s4, o4⟩ := s3.made mk
    exact p3 v H' A2 B s4 o4
theorem snd_op {o : Operator} (ha : PE X a (tE X.K g ia)) (hb : PE X b (tE X.K g ib)) : PE X (.BinOp a o b pos) (tE X.K g (.op o ia ib)) :=
  PE.imp (pe_op (op_all o) ha hb) fun σ H Q h => two_ev (fun env => rfl) h
theorem nobeh {o : CmpOp} {e : Expr} (h : (match e with | .Set _ _ _ => false | _ => true) = true) : behindInMarks o e = false := by
  cases e <;> first | rfl | cases h
theorem snd_cmp {o : CmpOp} (hu : X.A.units + 64 < cLine) (ha : PE X a (tE X.K g ia)) (hb : PE X b (tE X.K g ib)) (hm : behindInMarks o b = false) : PE X (.Compare a [o] [b] pos) (tE X.K g (.cmp o ia ib)) :=
  PE.imp (pe_cmpR (cmp_all hu o) ha hb hm) fun σ H Q h => two_ev (f := fun a b => (cmpT o a b).map fun b => .val (.bl b)) (fun env => rfl) h
theorem snd_ix (ha : PE X a (tE X.K g ia)) (hb : PE X b (tE X.K g ib)) (hs : PlainIx b) : PE X (.Subscript a b pos) (tE X.K g (.ix ia ib)) :=
  PE.imp (pe_ix ix_all ha hb hs) fun σ H Q h => two_ev (f := fun a b => (ixT a b).map .val) (fun env => rfl) h
end
end Ev
set_option maxHeartbeats 4000000
/-! Ev5: expressions, tests, arguments. -/
namespace Ev
open PySem L2
section
variable {K : PySem.W.Frag} {g : Cfg} {α β γ δ : Type} {Pa : α → β → Hp → (Addr → Prop) → List Addr → Prop} {Pc : γ → δ → Hp → (Addr → Prop) → List Addr → Prop}
variable {Rt : Addr → Prop} {σ : St} {H H1 H2 : Hp} {A A1 A2 B B1 B2 : List Addr} {env env1 env2 : Env} {r : R α} {f : α → Env → R γ} {Q : δ → Hp → Prop} {Q1 : β → Hp → Prop}
theorem rtB_nil : ∀ b, RtB [] Rt b ↔ Rt b := fun b => ⟨fun z => z.elim (fun z => by cases z) id, .inr⟩
theorem Sx.rt0 {Rt' : Addr → Prop} (e : ∀ b, Rt' b ↔ Rt b) (s : Sx K Rt σ H A H1 env1 A1 B1) : Sx K Rt' σ H A H1 env1 A1 B1 := by
  have : Rt' = Rt := funext fun b => propext (e b)
  rw [this]; exact s
theorem Sx.next0 {σ0 : St} (s1 : Sx K Rt σ0 H A H1 env1 A1 []) (s2 : Sx K Rt σ H1 A1 H2 env2 A2 B2) : Sx K Rt σ H A H2 env2 A2 B2 := s1.next (s2.rt0 rtB_nil)
/-- what follows, from where one stands -/
theorem Post.shift (s1 : Sx K Rt σ H A H1 env1 A1 []) (h : Post K g Pa Rt σ H A r Q1) : Post K g Pa Rt σ H1 A1 r Q1 := by
  cases r with
  | ok a e => exact fun b H' A' B' sx p => h b H' A' B' (s1.next0 sx) p
  | exc c t e => exact fun cls d H' A' sx p => h cls d H' A' (s1.next0 sx) p
  | no => exact h
theorem Post.seqE (h : Post K g Pc Rt σ H A (r.bind f) Q) (k : ∀ a e1 b H1 A1 B1, r = .ok a e1 → Sx K Rt σ H A H1 e1 A1 B1 → Pa a b H1 (Av (A1 ++ B1) Rt) B1 → Post K g Pc Rt σ H A (f a e1) Q → Q1 b H1) : Post K g Pa Rt σ H A r Q1 := by
  cases r with
  | ok a e1 => exact fun b H' A' B' sx p => k a e1 b H' A' B' rfl sx p h
  | exc c t e1 => exact h
  | no => exact h
theorem Sx.fzL0 {ws : List W} {vs : List V} (h : Sx K Rt σ H A H1 env1 A1 B) (ow : OwnL K H1 (Av (A1 ++ B) Rt) ws vs B) : FzL K H1 (Av (A1 ++ []) Rt) (fzs ws) vs :=
  OwnL.fz (Sx.avs fun b hb => by cases hb) ws vs B (fun b hb z => by
    rcases z with z | z
    · rw [List.append_nil] at z; exact h.out hb z
    · exact h.rt b (List.mem_append_right _ hb) z) ow
end
theorem fz_bl {K : PySem.W.Frag} {H : Hp} {av : Addr → Prop} {w : W} {v : V} {B : List Addr} {c : Bool} (e : w.fz = .bl c) (ow : Own K H av w v B) : v = .bl c := by
  cases w with
  | val t =>
    have e' : t = .bl c := e
    subst e'
    exact ow.2
  | lst ws => cases (show T.lst (fzs ws) = .bl c from e)
  | set ts => cases (show T.set ts = .bl c from e)
theorem fz_int {K : PySem.W.Frag} {H : Hp} {av : Addr → Prop} {w : W} {v : V} {B : List Addr} {c : Int} (e : w.fz = .int c) (ow : Own K H av w v B) : v = .int c := by
  cases w with
  | val t =>
    have e' : t = .int c := e
    subst e'
    exact ow.2
  | lst ws => cases (show T.lst (fzs ws) = .int c from e)
  | set ts => cases (show T.set ts = .int c from e)
section
variable {X : Cx} {g : Cfg} {pos : Pos} {a b c : Expr} {es rest : List Expr} {ia ib ic : E} {ja jb : Tt} {is : Es}
theorem snd_rd {i : Nat} {x : Str} (hN : X.N[i]? = some x) (hv : Vis X.env.scope x) (hd : (x == ("__debug__" : Str)) = false) (hcd : (x == ("__classdict__" : Str)) = false) : PE X (.Name x pos) (tE X.K g (.rd i)) :=
  PE.imp (pe_var hN hv hd hcd) fun σ H Q ⟨Rt, env, A, rl, p⟩ => by
    have p' : Post X.K g (PO1 X.K) Rt σ H A (match env[i]? with | some (some w) => .ok (.val w.fz) (env.set i (some (.val w.fz))) | _ => .no) Q := p
    cases e : env[i]? with
    | none => rw [e] at p'; exact p'.elim
    | some o =>
      cases o with
      | none => rw [e] at p'; exact p'.elim
      | some w =>
        rw [e] at p'
        have hi : i < env.length := (List.getElem?_eq_some_iff.mp e).1
        obtain ⟨A1, B, A2, eA, _, hw, hu⟩ := RE.slot env σ A i rl.re hi
        obtain ⟨v, ev, ow⟩ := hw w e
        subst eA
        obtain ⟨nd, out⟩ := nodup_mid rl.nd
        have sub : ∀ b, Av (A1 ++ A2) Rt b → Av (A1 ++ (B ++ A2)) Rt b := fun b z => z.imp (fun z => by
          rcases List.mem_append.mp z with z | z
          · exact List.mem_append_left _ z
          · exact List.mem_append_right _ (List.mem_append_right _ z)) id
        have fz : Fz X.K H (Av (A1 ++ A2) Rt) w.fz v := Own.fz sub w v B (fun b hb z => by
          rcases z with z | z
          · exact out b hb z
          · exact rl.rt b (List.mem_append_right _ (List.mem_append_left _ hb)) z) ow
        have re := (hu H (Av (A1 ++ A2) Rt) (fun _ _ q _ => q) (fun _ _ q => q) (fun b z => .inl (sub b z))).2 (.val w.fz) v [] ⟨rfl, fz⟩
        rw [set_same ev] at re
        have sx := rl.less nd (fun b hb => by
          rcases List.mem_append.mp hb with z | z
          · exact List.mem_append_left _ z
          · exact List.mem_append_right _ (List.mem_append_right _ z)) re
        refine ⟨v, ev, p' v H (A1 ++ A2) [] sx ⟨rfl, ?_⟩⟩
        rw [List.append_nil]
        exact fz
theorem snd_neg (ha : PE X a (tE X.K g ia)) : PE X (.UnaryOp .USub a pos) (tE X.K g (.neg ia)) :=
  PE.imp (pe_un neg_all ha) fun σ H Q ⟨Rt, env, A, rl, p⟩ => by
    refine ⟨Rt, env, A, rl, Post.seq p fun x e1 v1 H1 A1 B1 s1 o1 p1 => ?_⟩
    cases e : x.fz with
    | int i =>
      simp only [e] at p1
      have fz := s1.fz0 o1
      rw [e] at fz
      refine ⟨_, .int i, .val (.int (-i)), fz, rfl, fun v H' B mk => ?_⟩
      obtain ⟨s4, o4⟩ := s1.made mk
      exact p1 v H' A1 B s4 o4
    | _ => simp only [e] at p1; exact p1.elim
theorem snd_one {op : BoolOp} (ha : PE X a (tE X.K g ia)) : PE X (.BoolOp op [a] pos) (tE X.K g (.one ia)) := PE.imp (pe_one ha) fun σ H Q h => h
theorem snd_and (ha : PE X a (tE X.K g ia)) (hb : PE X (.BoolOp .And (b :: rest) pos) (tE X.K g ib)) : PE X (.BoolOp .And (a :: b :: rest) pos) (tE X.K g (.and ia ib)) :=
  PE.imp (pe_and ha hb) fun σ H Q ⟨Rt, env, A, rl, p⟩ => by
    refine ⟨Rt, env, A, rl, Post.seq p fun x e1 v1 H1 A1 B1 s1 o1 p1 => ?_⟩
    cases e : x.fz with
    | bl c =>
      refine ⟨c, fz_bl e o1, ?_⟩
      cases c with
      | true =>
        simp only [e] at p1
        exact ⟨Rt, e1, A1, s1.drop0.rl0, Post.shift s1.drop0 p1⟩
      | false =>
        simp only [e] at p1
        exact p1 (.bl false) H1 A1 [] s1.drop0 ⟨rfl, rfl⟩
    | _ => simp only [e] at p1; exact p1.elim
theorem snd_or (ha : PE X a (tE X.K g ia)) (hb : PE X (.BoolOp .Or (b :: rest) pos) (tE X.K g ib)) : PE X (.BoolOp .Or (a :: b :: rest) pos) (tE X.K g (.or ia ib)) :=
  PE.imp (pe_or ha hb) fun σ H Q ⟨Rt, env, A, rl, p⟩ => by
    refine ⟨Rt, env, A, rl, Post.seq p fun x e1 v1 H1 A1 B1 s1 o1 p1 => ?_⟩
    cases e : x.fz with
    | bl c =>
      refine ⟨c, fz_bl e o1, ?_⟩
      cases c with
      | false =>
        simp only [e] at p1
        exact ⟨Rt, e1, A1, s1.drop0.rl0, Post.shift s1.drop0 p1⟩
      | true =>
        simp only [e] at p1
        exact p1 (.bl true) H1 A1 [] s1.drop0 ⟨rfl, rfl⟩
    | _ => simp only [e] at p1; exact p1.elim
theorem snd_not (ha : PE X a (tE X.K g ia)) : PE X (.UnaryOp .Not a pos) (tE X.K g (.not ia)) :=
  PE.imp (pe_not ha) fun σ H Q ⟨Rt, env, A, rl, p⟩ => by
    refine ⟨Rt, env, A, rl, Post.seq p fun x e1 v1 H1 A1 B1 s1 o1 p1 => ?_⟩
    cases e : x.fz with
    | bl c =>
      simp only [e] at p1
      exact ⟨c, fz_bl e o1, p1 (.bl (!c)) H1 A1 [] s1.drop0 ⟨rfl, rfl⟩⟩
    | _ => simp only [e] at p1; exact p1.elim
theorem snd_ife (hc : PT X c (tT X.K g ja)) (ha : PE X a (tE X.K g ia)) (hb : PE X b (tE X.K g ib)) : PE X (.IfExp c a b pos) (tE X.K g (.ife ja ia ib)) :=
  PE.imp (pe_ifExp hc ha hb) fun σ H Q ⟨Rt, env, A, rl, p⟩ => by
    refine ⟨Rt, env, A, rl, Post.seq p fun x e1 v1 H1 A1 B1 s1 o1 p1 => ?_⟩
    obtain ⟨rfl, rfl⟩ := o1
    cases v1 with
    | true => exact ⟨Rt, e1, A1, s1.rl0, Post.shift s1 p1⟩
    | false => exact ⟨Rt, e1, A1, s1.rl0, Post.shift s1 p1⟩
/-! ### tests -/
def plainT : Expr → Bool
  | .UnaryOp .Not _ _ => false
  | .BoolOp _ _ _ => false
  | .IfExp _ _ _ _ => false
  | .Compare _ _ _ _ => false
  | _ => true
theorem plainT_is {e : Expr} (h : plainT e = true) (env : PySem.Env) (wh : Sem Value) : isTrue e env wh = (do let v ← wh; standAt e.pos; holding [v] (truthy v)) := by
  cases e with
  | UnaryOp op x p => cases op <;> first | rfl | cases h
  | BoolOp _ _ _ => cases h
  | IfExp _ _ _ _ => cases h
  | Compare _ _ _ _ => cases h
  | _ => rfl
theorem snt_v (ha : PE X a (tE X.K g ia)) (h : plainT a = true) : PT X a (tT X.K g (.v ia)) :=
  PT.imp (pt_truth ha fun wh => plainT_is h _ wh) fun σ H Q ⟨Rt, env, A, rl, p⟩ => by
    refine ⟨Rt, env, A, rl, Post.seq p fun x e1 v1 H1 A1 B1 s1 o1 p1 => ?_⟩
    obtain ⟨k, ek, p2⟩ := Post.of p1
    exact ⟨k, tru_all (s1.fz0 o1) ek, p2 k H1 A1 [] s1.drop0 ⟨rfl, rfl⟩⟩
/-- a value that is a bool, as a test -/
theorem test_bl {i : E} (hb : ∀ env w e1, evE g.G g.C i env = .ok w e1 → ∃ c, w.fz = .bl c) {σ : St} {H : Hp} {Q : Bool → Hp → Prop} (h : tT X.K g (.v i) σ H Q) : tE X.K g i σ H fun x H' => ∃ k, x = .bl k ∧ Q k H' := by
  obtain ⟨Rt, env, A, rl, p⟩ := h
  refine ⟨Rt, env, A, rl, Post.seqE p fun x e1 v1 H1 A1 B1 er s1 o1 p1 => ?_⟩
  obtain ⟨c, ec⟩ := hb env x e1 er
  obtain ⟨k, ek, p2⟩ := Post.of p1
  rw [ec] at ek
  cases ek
  exact ⟨c, fz_bl ec o1, p2 c H1 A1 [] s1.drop0 ⟨rfl, rfl⟩⟩
theorem bind_ok {α β : Type} {r : R α} {f : α → Env → R β} {b : β} {e : Env} (h : r.bind f = .ok b e) : ∃ a e1, r = .ok a e1 ∧ f a e1 = .ok b e := by
  cases r with
  | ok a e1 => exact ⟨a, e1, rfl, h⟩
  | exc c t e1 => cases h
  | no => cases h
theorem of_ok {α : Type} {o : Option α} {env : Env} {a : α} {e : Env} (h : R.of o env = .ok a e) : o = some a ∧ env = e := by
  cases o with
  | none => cases h
  | some x => cases h; exact ⟨rfl, rfl⟩
theorem cmp_bl {o : CmpOp} (env : Env) (w : W) (e1 : Env) (h : evE g.G g.C (.cmp o ia ib) env = .ok w e1) : ∃ c, w.fz = .bl c := by
  obtain ⟨x, e2, _, h⟩ := bind_ok (show ((evE g.G g.C ia env).bind fun x env1 => (evE g.G g.C ib env1).bind fun y env2 => R.of ((cmpT o x.fz y.fz).map fun b => W.val (.bl b)) env2) = _ from h)
  obtain ⟨y, e3, _, h⟩ := bind_ok h
  obtain ⟨h, _⟩ := of_ok h
  obtain ⟨c, _, rfl⟩ := Option.map_eq_some_iff.mp h
  exact ⟨c, rfl⟩
theorem snt_cmp {o : CmpOp} (hu : X.A.units + 64 < cLine) (ha : PE X a (tE X.K g ia)) (hb : PE X b (tE X.K g ib)) (hm : behindInMarks o b = false) : PT X (.Compare a [o] [b] pos) (tT X.K g (.v (.cmp o ia ib))) :=
  PT.imp (pt_cmpR (cmp_all hu o) ha hb hm) fun σ H Q h => two_ev (f := fun a b => (cmpT o a b).map fun b => .val (.bl b)) (i := .cmp o ia ib) (fun env => rfl) (test_bl cmp_bl h)
/-! ### a chain of two comparisons -/
theorem chain_ev {o o' : CmpOp} {σ : St} {H : Hp} {Q : VK} (h : tE X.K g (.chn o o' ia ib ic) σ H Q) :
    tChain (rP2 X.K fun a b => (cmpT o a b).map fun b => .val (.bl b)) (rP2 X.K fun a b => (cmpT o' a b).map fun b => .val (.bl b)) (tE X.K g ia) (tE X.K g ib) (tE X.K g ic) σ H Q := by
  obtain ⟨Rt, env, A, rl, p⟩ := h
  refine ⟨Rt, env, A, rl, Post.seq p fun x e1 v1 H1 A1 B1 s1 o1 p1 => ?_⟩
  refine ⟨RtB B1 Rt, e1, A1, s1.rl, Post.seq2 s1 p1 fun y e2 v2 H2 A2 B2 s2 o2 p2 => ?_⟩
  have s3 := s1.next s2
  have w1 : Own X.K H2 (Av (A2 ++ (B1 ++ B2)) Rt) x v1 B1 := s1.own s2 o1
  have w2 : Own X.K H2 (Av (A2 ++ (B1 ++ B2)) Rt) y v2 B2 := Sx.own2 o2
  have f1 : Fz X.K H2 (Av (A2 ++ []) Rt) x.fz v1 := Own.fz (Sx.avs fun b hb => by cases hb) x v1 B1 (fun b hb z => by
      rcases z with z | z
      · rw [List.append_nil] at z; exact s3.out (List.mem_append_left _ hb) z
      · exact s3.rt b (List.mem_append_right _ (List.mem_append_left _ hb)) z) w1
  have f2 : Fz X.K H2 (Av (A2 ++ []) Rt) y.fz v2 := Own.fz (Sx.avs fun b hb => by cases hb) y v2 B2 (fun b hb z => by
      rcases z with z | z
      · rw [List.append_nil] at z; exact s3.out (List.mem_append_right _ hb) z
      · exact s3.rt b (List.mem_append_right _ (List.mem_append_right _ hb)) z) w2
  cases ec : cmpT o x.fz y.fz with
  | none => simp only [ec] at p2; exact p2.elim
  | some k =>
    refine ⟨Av (A2 ++ []) Rt, x.fz, y.fz, .val (.bl k), f1, f2, congrArg (Option.map fun b => W.val (T.bl b)) ec, fun v H' B mk => ?_⟩
    obtain ⟨s4, o4⟩ := s3.made mk
    refine ⟨k, o4.2, ?_⟩
    cases k with
    | false =>
      simp only [ec] at p2
      exact p2 (.bl false) H' A2 [] s4.drop0 ⟨rfl, rfl⟩
    | true =>
      simp only [ec] at p2
      have s5 := s4.drop0
      have f3 : Fz X.K H' (Av (A2 ++ []) Rt) y.fz v2 := by
        exact Fz.mono (fun b o q _ => mk.ext b o q) (fun b xs q => Rd.mono q fun o q => mk.ext b o q) (fun b z => .inl z) y.fz v2 f2
      refine ⟨Rt, e2, A2, s5.rl0, Post.seq (Post.shift s5 p2) fun z e3 v3 H3 A3 B3 s6 o6 p6 => ?_⟩
      obtain ⟨w, ew, p7⟩ := Post.of p6
      refine ⟨Av (A3 ++ []) Rt, y.fz, z.fz, w, ?_, s6.fz0 o6, ew, fun v H4 B4 mk4 => ?_⟩
      · refine Fz.mono (fun b o q c => s6.go.keep b o q fun z => c (.inl (List.mem_append_left _ z))) s6.go.tups (fun b z => ?_) y.fz v2 f3
        rcases z with z | z
        · rw [List.append_nil] at z
          exact (s6.go.new b (List.mem_append_left _ z)).imp (fun z => .inl (List.mem_append_left _ z)) id
        · exact .inl (.inr z)
      · obtain ⟨s7, o7⟩ := s6.made mk4
        exact p7 v H4 A3 B4 s7 o7
theorem snd_chn {o o' : CmpOp} (hu : X.A.units + 64 < cLine) (ha : PE X a (tE X.K g ia)) (hb : PE X b (tE X.K g ib)) (hc : PE X c (tE X.K g ic)) (hm : lastMarks [o, o'] [b, c] = false) : PE X (.Compare a [o, o'] [b, c] pos) (tE X.K g (.chn o o' ia ib ic)) :=
  PE.imp (pe_chain (cmp_all hu o) (cmp_all hu o') ha hb hc hm) fun σ H Q h => chain_ev h
theorem chn_bl {o o' : CmpOp} (env : Env) (w : W) (e1 : Env) (h : evE g.G g.C (.chn o o' ia ib ic) env = .ok w e1) : ∃ c, w.fz = .bl c := by
  obtain ⟨x, e2, _, h⟩ := bind_ok (show ((evE g.G g.C ia env).bind fun x env1 => (evE g.G g.C ib env1).bind fun y env2 => (match cmpT o x.fz y.fz with
    | some true => (evE g.G g.C ic env2).bind fun z env3 => R.of ((cmpT o' y.fz z.fz).map fun b => W.val (.bl b)) env3
    | some false => .ok (.val (.bl false)) env2
    | none => .no)) = _ from h)
  obtain ⟨y, e3, _, h⟩ := bind_ok h
  cases ec : cmpT o x.fz y.fz with
  | none => simp only [ec] at h; cases h
  | some k =>
    cases k with
    | false => simp only [ec] at h; cases h; exact ⟨false, rfl⟩
    | true =>
      simp only [ec] at h
      obtain ⟨z, e4, _, h⟩ := bind_ok h
      obtain ⟨h, _⟩ := of_ok h
      obtain ⟨c, _, rfl⟩ := Option.map_eq_some_iff.mp h
      exact ⟨c, rfl⟩
theorem snt_chn {o o' : CmpOp} (hu : X.A.units + 64 < cLine) (ha : PE X a (tE X.K g ia)) (hb : PE X b (tE X.K g ib)) (hc : PE X c (tE X.K g ic)) (hm : lastMarks [o, o'] [b, c] = false) : PT X (.Compare a [o, o'] [b, c] pos) (tT X.K g (.v (.chn o o' ia ib ic))) :=
  PT.imp (pt_chain (cmp_all hu o) (cmp_all hu o') ha hb hc hm) fun σ H Q h => chain_ev (test_bl chn_bl h)
/-! ### and, or, not as tests -/
theorem snw_one {op : BoolOp} (ha : PT X a (tT X.K g ja)) : PW X (.BoolOp op [a] pos) (tT X.K g (.one ja)) := by
  cases op with
  | And => exact PW.imp (pw_and1 ha) fun σ H Q h => h
  | Or => exact PW.imp (pw_or1 ha) fun σ H Q h => h
theorem snw_and (ha : PT X a (tT X.K g ja)) (hb : PW X (.BoolOp .And (b :: rest) pos) (tT X.K g jb)) : PW X (.BoolOp .And (a :: b :: rest) pos) (tT X.K g (.and ja jb)) :=
  PW.imp (pw_and ha hb) fun σ H Q ⟨Rt, env, A, rl, p⟩ => by
    refine ⟨Rt, env, A, rl, Post.seq p fun x e1 v1 H1 A1 B1 s1 o1 p1 => ?_⟩
    obtain ⟨rfl, rfl⟩ := o1
    cases v1 with
    | true => exact ⟨Rt, e1, A1, s1.rl0, Post.shift s1 p1⟩
    | false => exact p1 false H1 A1 [] s1 ⟨rfl, rfl⟩
theorem snw_or (ha : PT X a (tT X.K g ja)) (hb : PW X (.BoolOp .Or (b :: rest) pos) (tT X.K g jb)) : PW X (.BoolOp .Or (a :: b :: rest) pos) (tT X.K g (.or ja jb)) :=
  PW.imp (pw_or ha hb) fun σ H Q ⟨Rt, env, A, rl, p⟩ => by
    refine ⟨Rt, env, A, rl, Post.seq p fun x e1 v1 H1 A1 B1 s1 o1 p1 => ?_⟩
    obtain ⟨rfl, rfl⟩ := o1
    cases v1 with
    | false => exact ⟨Rt, e1, A1, s1.rl0, Post.shift s1 p1⟩
    | true => exact p1 true H1 A1 [] s1 ⟨rfl, rfl⟩
theorem snt_not (ha : PT X a (tT X.K g ja)) : PT X (.UnaryOp .Not a pos) (tT X.K g (.not ja)) :=
  PT.imp (pt_not ha) fun σ H Q ⟨Rt, env, A, rl, p⟩ => by
    refine ⟨Rt, env, A, rl, Post.seq p fun x e1 v1 H1 A1 B1 s1 o1 p1 => ?_⟩
    obtain ⟨rfl, rfl⟩ := o1
    exact p1 (!v1) H1 A1 [] s1 ⟨rfl, rfl⟩
theorem pa_nil' : PA X [] (tEs X.K g .nil) := PA.imp pa_nil fun σ H Q ⟨Rt, env, A, rl, p⟩ => p [] H A [] rl.sx ⟨rfl, rfl⟩
theorem snd_cons {e : Expr} (he : PE X e (tE X.K g ia)) (hs : PA X es (tEs X.K g is)) (hst : starEach (e :: es) X.env = (false, eval e X.env) :: starEach es X.env) : PA X (e :: es) (tEs X.K g (.cons ia is)) :=
  PA.imp (pa_cons he hs hst) fun σ H Q ⟨Rt, env, A, rl, p⟩ => by
    refine ⟨Rt, env, A, rl, Post.seq p fun x e1 v1 H1 A1 B1 s1 o1 p1 => ?_⟩
    refine ⟨RtB B1 Rt, e1, A1, s1.rl, Post.seq2 s1 p1 fun ws e2 vs H2 A2 B2 s2 o2 p2 => ?_⟩
    exact p2 (v1 :: vs) H2 A2 (B1 ++ B2) (s1.next s2) ⟨v1, vs, B1, B2, rfl, rfl, s1.own s2 o1, Sx.ownL2 o2⟩
theorem OwnL.len {K : PySem.W.Frag} {H : Hp} {av : Addr → Prop} : ∀ (ws : List W) (vs : List V) (B : List Addr), OwnL K H av ws vs B → ws.length = vs.length
  | [], vs, B, h => by rw [h.1]; rfl
  | w :: ws, vs, B, h => by
    obtain ⟨v, r, B1, B2, rfl, _, _, h2⟩ := h
    rw [List.length_cons, List.length_cons, OwnL.len ws r B2 h2]
theorem snd_tup {k : Nat} (hs : PA X es (tEs X.K g is)) : PE X (.Tuple es k pos) (tE X.K g (.tup is)) :=
  PE.imp (pe_tup hs) fun σ H Q ⟨Rt, env, A, rl, p⟩ => by
    refine ⟨Rt, env, A, rl, Post.seq p fun ws e1 vs H1 A1 B1 s1 o1 p1 => ?_⟩
    have p2 : Post X.K g (PO1 X.K) Rt σ H A (if decide (ws.length ≤ 16777216) = true then .ok (.val (.tup (fzs ws))) e1 else .no) Q := p1
    by_cases c : decide (ws.length ≤ 16777216) = true
    · rw [if_pos c] at p2
      refine ⟨by rw [sizeLine_eq, ← OwnL.len ws vs B1 o1]; exact of_decide_eq_true c, fun q hq => ?_⟩
      obtain ⟨s4, o4⟩ := s1.made (Mk.tup hq (s1.fzL0 o1))
      exact p2 _ _ A1 [] s4 o4
    · rw [if_neg c] at p2; exact p2.elim
theorem snd_lst (hs : PA X es (tEs X.K g is)) : PE X (.List es pos) (tE X.K g (.lst is)) :=
  PE.imp (pe_lst hs) fun σ H Q ⟨Rt, env, A, rl, p⟩ => by
    refine ⟨Rt, env, A, rl, Post.seq p fun ws e1 vs H1 A1 B1 s1 o1 p1 => ?_⟩
    have p2 : Post X.K g (PO1 X.K) Rt σ H A (if decide (ws.length ≤ 16777216) = true then .ok (.lst ws) e1 else .no) Q := p1
    by_cases c : decide (ws.length ≤ 16777216) = true
    · rw [if_pos c] at p2
      refine ⟨by rw [sizeLine_eq, ← OwnL.len ws vs B1 o1]; exact of_decide_eq_true c, fun q hq => ?_⟩
      exact p2 (.ref q) _ A1 (q :: B1) (s1.new hq) ⟨q, vs, B1, rfl, rfl, upd_same, OwnL.newp hq o1⟩
    · rw [if_neg c] at p2; exact p2.elim
/-- a call of a builtin by values -/
theorem snd_callv {x : Str} {id : String} {p0 : Pos} {f : List T → Option W} {i : E} {e : Expr} (hc : CallR X (.builtin id) (rPL X.K f)) (hg : Gl X x) (hm : X.mg x = none) (hv : bootBuiltins x = some (.builtin id)) (hs : PA X (e :: es) (tEs X.K g is))
    (hn : x ≠ "__name__") (hdb : (x == ("__debug__" : Str)) = false) (he : starEach (e :: es) X.env = (false, eval e X.env) :: starEach es X.env) (hpl : (backTo pos (starEach es X.env)).any (·.1) = false)
    (ev : ∀ env, evE g.G g.C i env = (evEs g.G g.C is env).bind fun ws env1 => R.of (f (fzs ws)) env1) : PE X (.Call (.Name x p0) (e :: es) [] pos) (tE X.K g i) :=
  PE.imp (pe_callB hc hg hm hv hs hn hdb he hpl) fun σ H Q ⟨Rt, env, A, rl, p⟩ => by
    rw [ev] at p
    refine ⟨Rt, env, A, rl, Post.seq p fun ws e1 vs H1 A1 B1 s1 o1 p1 => ?_⟩
    obtain ⟨w, ew, p2⟩ := Post.of p1
    refine ⟨_, fzs ws, w, s1.fzL0 o1, ew, fun v H' B mk => ?_⟩
    obtain ⟨s4, o4⟩ := s1.made mk
    exact p2 v H' A1 B s4 o4
theorem snd_callt {x : Str} {id : String} {p0 : Pos} {f : List T → Option W} {i : E} {e : Expr} (hc : CallR X (.type id) (rPL X.K f)) (hg : Gl X x) (hm : X.mg x = none) (hv : bootBuiltins x = some (.type id)) (hs : PA X (e :: es) (tEs X.K g is))
    (hn : x ≠ "__name__") (hdb : (x == ("__debug__" : Str)) = false) (he : starEach (e :: es) X.env = (false, eval e X.env) :: starEach es X.env) (hpl : (backTo pos (starEach es X.env)).any (·.1) = false)
    (ev : ∀ env, evE g.G g.C i env = (evEs g.G g.C is env).bind fun ws env1 => R.of (f (fzs ws)) env1) : PE X (.Call (.Name x p0) (e :: es) [] pos) (tE X.K g i) :=
  PE.imp (pe_callTy hc hg hm hv hs hn hdb he hpl) fun σ H Q ⟨Rt, env, A, rl, p⟩ => by
    rw [ev] at p
    refine ⟨Rt, env, A, rl, Post.seq p fun ws e1 vs H1 A1 B1 s1 o1 p1 => ?_⟩
    obtain ⟨w, ew, p2⟩ := Post.of p1
    refine ⟨_, fzs ws, w, s1.fzL0 o1, ew, fun v H' B mk => ?_⟩
    obtain ⟨s4, o4⟩ := s1.made mk
    exact p2 v H' A1 B s4 o4
end
end Ev
set_option maxHeartbeats 4000000
/-! Ev7: what is walked; list comprehensions. -/
namespace Ev
open PySem L2

/-- J walks the trees ts while P holds -/
structure Jt (K : PySem.W.Frag) (J : L2.It) (ts : List T) (P : Hp → (Addr → Prop) → Prop) : Prop where
  mono : ∀ (H H' : Hp) (av av' : Addr → Prop), P H av → (∀ b o, H b = some o → ¬ av b → H' b = some o) → (∀ b xs, Rd H b (.tup xs) → Rd H' b (.tup xs)) → (∀ b, av' b → av b ∨ H b = none) → P H' av'
  stop : ∀ (H : Hp) av (i : Nat), P H av → ts.length ≤ i → J.stop i H
  go : ∀ (H : Hp) av (i : Nat) t, P H av → ts[i]? = some t → J.go i H
  yld : ∀ (H : Hp) av (i : Nat) t x H', P H av → ts[i]? = some t → J.yld i H x H' → (∀ b o, H b = some o → H' b = some o) ∧ Fz K H' av t x
section
variable {K : PySem.W.Frag}
theorem jt_list {a : Addr} {ts : List T} : Jt K (Itl K a) ts fun H av => Fz K H av (.lst ts) (.ref a) where
  mono := fun H H' av av' p k t h => Fz.mono k t h _ _ p
  stop := fun H av i p hi => by
    obtain ⟨a', xs, e, hs, _, hl⟩ := p
    cases e
    exact ⟨xs, .inl hs, by rw [← hl.len]; exact hi⟩
  go := fun H av i t p hi => by
    obtain ⟨a', xs, e, hs, _, hl⟩ := p
    cases e
    obtain ⟨v, hv, _⟩ := hl.get hi
    exact ⟨xs, v, .inl hs, hv⟩
  yld := fun H av i t x H' p hi y => by
    obtain ⟨a', xs, e, hs, _, hl⟩ := p
    cases e
    obtain ⟨e1, y⟩ := y
    subst e1
    obtain ⟨v, hv, hf⟩ := hl.get hi
    have := y xs (.inl hs)
    rw [hv] at this
    cases this
    exact ⟨fun _ _ q => q, hf⟩
theorem jt_tup {a : Addr} {ts : List T} : Jt K (Itt K a) ts fun H av => Fz K H av (.tup ts) (.ref a) where
  mono := fun H H' av av' p k t h => Fz.mono k t h _ _ p
  stop := fun H av i p hi => by
    obtain ⟨a', xs, e, hs, hl⟩ := p
    cases e
    exact ⟨xs, hs, by rw [← hl.len]; exact hi⟩
  go := fun H av i t p hi => by
    obtain ⟨a', xs, e, hs, hl⟩ := p
    cases e
    obtain ⟨v, hv, _⟩ := hl.get hi
    exact ⟨xs, v, hs, hv⟩
  yld := fun H av i t x H' p hi y => by
    obtain ⟨a', xs, e, hs, hl⟩ := p
    cases e
    obtain ⟨e1, y⟩ := y
    subst e1
    obtain ⟨v, hv, hf⟩ := hl.get hi
    have := y xs hs
    rw [hv] at this
    cases this
    exact ⟨fun _ _ q => q, hf⟩
theorem rngI_len (a : Int) : ∀ n, (rngI a n).length = n := by
  intro n
  induction n generalizing a with
  | zero => rfl
  | succ n ih => show (rngI (a + 1) n).length + 1 = _; rw [ih]
theorem rngI_get : ∀ (n : Nat) (a : Int) (i : Nat), i < n → (rngI a n)[i]? = some (a + i)
  | 0, _, _, h => absurd h (Nat.not_lt_zero _)
  | n + 1, a, 0, _ => by show some a = _; rw [Int.natCast_zero, Int.add_zero]
  | n + 1, a, i + 1, h => by
    show (rngI (a + 1) n)[i]? = _
    rw [rngI_get n (a + 1) i (by omega)]
    congr 1
    omega
theorem jt_rng {lo : Int} {n : Nat} : Jt K (Itr lo n) ((rngI lo n).map T.int) fun _ _ => True where
  mono := fun _ _ _ _ _ _ _ _ => trivial
  stop := fun H av i _ hi => by rw [List.length_map, rngI_len] at hi; exact hi
  go := fun H av i t _ hi => by
    have := (List.getElem?_eq_some_iff.mp hi).1
    rw [List.length_map, rngI_len] at this
    exact this
  yld := fun H av i t x H' _ hi y => by
    obtain ⟨e1, e2⟩ := y
    subst e1
    have hl := (List.getElem?_eq_some_iff.mp hi).1
    rw [List.length_map, rngI_len] at hl
    rw [List.getElem?_map, rngI_get n lo i hl] at hi
    cases hi
    exact ⟨fun _ _ q => q, e2⟩
end
section
variable (K : PySem.W.Frag) (g : Cfg)
def PJ : List T → L2.It → Hp → (Addr → Prop) → List Addr → Prop := fun ts J H av B => B = [] ∧ ∃ P, Jt K J ts P ∧ P H av
def tI (i : Ev.It) : TI := fun σ H Q => ∃ Rt env A, Rl K Rt H σ env A ∧ Post K g (PJ K) Rt σ H A (evI g.G g.C i env) Q
end
theorem PI.imp {X : Cx} {tg e : Expr} {t t' : TI} (h : PI X tg e t) (i : ∀ σ H Q, t' σ H Q → t σ H Q) : PI X tg e t' := ⟨fun pins s σ H Q I q => h.run pins s σ H Q I (i σ H Q q)⟩
theorem okR_of {n : Int} (h : okR n = true) : -8388608 ≤ n ∧ n ≤ 8388608 := by
  unfold okR at h
  rw [Bool.and_eq_true] at h
  exact ⟨of_decide_eq_true h.1, of_decide_eq_true h.2⟩
section
variable {X : Cx} {g : Cfg} {tg a b : Expr} {ia ib : E} {pos p0 : Pos}
/-- a list or a tuple is walked -/
def iSeq (K : PySem.W.Frag) (tl : TE) : TI := fun σ H R => tl σ H fun x H1 => ∃ a, x = .ref a ∧ ((∃ xs, SqL K H1 a xs ∧ R (Itl K a) H1) ∨ ∃ xs, SqT K H1 a xs ∧ R (Itt K a) H1)
theorem pi_seq {l : Expr} {tl : TE} (hl : PE X l tl) : PI X tg l (iSeq X.K tl) := by
  constructor
  intro pins s σ H R I h
  refine thn (hl.run pins s σ H _ I h) fun v s1 q0 => ?_
  obtain ⟨x, H1, I1, r1, a, e, q⟩ := q0
  subst e
  cases r1
  have me : ∀ b ∈ [s1.heap.objs.size], FpOk X pins H1 b := fun b hb => by
    rw [List.mem_singleton.mp hb]
    exact I1.fpOk (Nat.le_refl _) (I1.hok.fresh (Nat.le_refl _))
  rcases q with ⟨xs, hq, q⟩ | ⟨xs, hq, q⟩
  · obtain ⟨its, rv, pl, hz⟩ := I1.list hq
    refine wpAny_pyIter_list pl.isList ⟨s1.heap.objs.size, [s1.heap.objs.size], _, _, H1, rfl, ?_, turn_list a _, ?_, me, q⟩
    · exact I1.kept (t' := s1.toks) fun b o e => Heap.get?_push_of_some _ e
    · exact ⟨_, Heap.get?_push_size _ rfl, rfl, rfl⟩
  · obtain ⟨its, rv, pl, hz⟩ := I1.tuple hq
    refine wpAny_pyIter_tuple (show s1.heap.IsTuple a its.toArray from pl) ⟨s1.heap.objs.size, [s1.heap.objs.size], _, _, H1, rfl, ?_, turn_tuple a _, ?_, me, q⟩
    · exact I1.kept (t' := s1.toks) fun b o e => Heap.get?_push_of_some _ e
    · exact ⟨_, Heap.get?_push_size _ rfl, rfl, rfl⟩
theorem sni_e (ha : PE X a (tE X.K g ia)) : PI X tg a (tI X.K g (.e ia)) :=
  PI.imp (pi_seq ha) fun σ H Rr ⟨Rt, env, A, rl, p⟩ => by
    refine ⟨Rt, env, A, rl, Post.seq p fun x e1 v1 H1 A1 B1 s1 o1 p1 => ?_⟩
    have fz := s1.fz0 o1
    cases e : x.fz with
    | lst ts =>
      simp only [e] at p1
      rw [e] at fz
      obtain ⟨a', xs, e', hs, na, hl⟩ := id fz
      refine ⟨a', e', .inl ⟨xs, .inl hs, p1 (Itl X.K a') H1 A1 [] s1.drop0 ⟨rfl, _, jt_list, ?_⟩⟩⟩
      rw [← e']; exact fz
    | tup ts =>
      simp only [e] at p1
      rw [e] at fz
      obtain ⟨a', xs, e', hs, hl⟩ := id fz
      refine ⟨a', e', .inr ⟨xs, hs, p1 (Itt X.K a') H1 A1 [] s1.drop0 ⟨rfl, _, jt_tup, ?_⟩⟩⟩
      rw [← e']; exact fz
    | _ => simp only [e] at p1; exact p1.elim
theorem sni_rng1 (hg : Gl X "range") (hm : X.mg "range" = none) (ha : PE X a (tE X.K g ia)) (hs : starEach [a] X.env = [(false, eval a X.env)]) : PI X tg (.Call (.Name "range" p0) [a] [] pos) (tI X.K g (.rng ia .no)) :=
  PI.imp (pi_range1 (ta := tCons (tE X.K g ia) tNil) hg hm (pa_cons ha pa_nil hs) hs) fun σ H Rr ⟨Rt, env, A, rl, p⟩ => by
    refine ⟨Rt, env, A, rl, Post.seq p fun x e1 v1 H1 A1 B1 s1 o1 p1 => ?_⟩
    have p2 : Post X.K g (PJ X.K) Rt σ H A (R.of ((rngT x.fz none).map fun is => is.map T.int) e1) Rr := p1
    obtain ⟨ts, et, p3⟩ := Post.of p2
    obtain ⟨is, ei, e2⟩ := Option.map_eq_some_iff.mp et
    subst e2
    cases e : x.fz with
    | int n =>
      rw [e] at ei
      have ei' : (if okR n = true then some (rngI 0 n.toNat) else none) = some is := ei
      by_cases c : okR n = true
      · rw [if_pos c] at ei'
        cases ei'
        have c' := okR_of c
        exact ⟨n, by rw [fz_int e o1], by omega, by omega, p3 (Itr 0 n.toNat) H1 A1 [] s1.drop0 ⟨rfl, _, jt_rng, trivial⟩⟩
      · rw [if_neg c] at ei'; cases ei'
    | _ => rw [e] at ei; cases ei
theorem fzo_int {w : W} {i : Int} {K : PySem.W.Frag} {H : Hp} {av : Addr → Prop} {v : V} {B : List Addr} (e : w.fz = .int i) (ow : Own K H av w v B) : B = [] := by
  cases w with
  | val t => exact ow.1
  | lst ws => cases (show T.lst (fzs ws) = .int i from e)
  | set ts => cases (show T.set ts = .int i from e)
theorem sni_rng2 (hg : Gl X "range") (hm : X.mg "range" = none) (ha : PE X a (tE X.K g ia)) (hb : PE X b (tE X.K g ib)) (hs : starEach [a, b] X.env = [(false, eval a X.env), (false, eval b X.env)]) (hs2 : starEach [b] X.env = [(false, eval b X.env)]) :
    PI X tg (.Call (.Name "range" p0) [a, b] [] pos) (tI X.K g (.rng ia (.so ib))) :=
  PI.imp (pi_range2 (ta := tCons (tE X.K g ia) (tCons (tE X.K g ib) tNil)) hg hm (pa_cons ha (pa_cons hb pa_nil hs2) (by rw [hs, hs2])) hs hs2) fun σ H Rr ⟨Rt, env, A, rl, p⟩ => by
    refine ⟨Rt, env, A, rl, Post.seq p fun x e1 v1 H1 A1 B1 s1 o1 p1 => ?_⟩
    have p1' : Post X.K g (PJ X.K) Rt σ H A ((evE g.G g.C ib e1).bind fun w env1 => (match w.fz with | .int i => R.ok (some i) env1 | _ => .no).bind fun (y : Option Int) env2 => R.of ((rngT x.fz y).map fun (is : List Int) => is.map T.int) env2) Rr := by
      have : Post X.K g (PJ X.K) Rt σ H A (((evE g.G g.C ib e1).bind fun w env1 => (match w.fz with | .int i => R.ok (some i) env1 | _ => .no)).bind fun (y : Option Int) env2 => R.of ((rngT x.fz y).map fun (is : List Int) => is.map T.int) env2) Rr := p1
      cases er : evE g.G g.C ib e1 with
      | ok w e2 => rw [er] at this; exact this
      | exc c t e2 => rw [er] at this; exact this
      | no => rw [er] at this; exact this
    refine ⟨RtB B1 Rt, e1, A1, s1.rl, Post.seq2 s1 p1' fun y e2 v2 H2 A2 B2 s2 o2 p2 => ?_⟩
    have s3 := s1.next s2
    have w1 := s1.own s2 o1
    cases ey : y.fz with
    | int j =>
      simp only [ey] at p2
      have p2' : Post X.K g (PJ X.K) Rt σ H A (R.of ((rngT x.fz (some j)).map fun is => is.map T.int) e2) Rr := p2
      obtain ⟨ts, et, p3⟩ := Post.of p2'
      obtain ⟨is, ei, e4⟩ := Option.map_eq_some_iff.mp et
      subst e4
      cases e : x.fz with
      | int n =>
        rw [e] at ei
        have ei' : (if (okR n && okR j) = true then some (rngI n (j - n).toNat) else none) = some is := ei
        by_cases c : (okR n && okR j) = true
        · rw [if_pos c] at ei'
          cases ei'
          rw [Bool.and_eq_true] at c
          have c1 := okR_of c.1
          have c2 := okR_of c.2
          exact ⟨n, j, by rw [fz_int e o1, fz_int ey o2], ⟨by omega, by omega, by omega, by omega⟩, p3 (Itr n (j - n).toNat) H2 A2 [] s3.drop0 ⟨rfl, _, jt_rng, trivial⟩⟩
        · rw [if_neg c] at ei'; cases ei'
      | _ => rw [e] at ei; cases ei
    | _ => simp only [ey] at p2; exact p2.elim
end
end Ev
set_option maxHeartbeats 4000000
/-! Ev8: targets; list comprehensions. -/
namespace Ev
open PySem L2
section
variable {K : PySem.W.Frag} {Rt : Addr → Prop} {H H1 H2 H' : Hp} {σ σ' : St} {env env1 env2 : Env} {A A1 A2 B B' B1 B2 : List Addr} {p D : Addr} {o : HO} {w : W} {ws : List W} {v y : V} {vs : List V} {t : T} {ts : List T} {av : Addr → Prop}
/-- a slot that owns nothing -/
def Bare (env : Env) (i : Nat) : Prop := env[i]? = some none ∨ ∃ t, env[i]? = some (some (.val t))
theorem hidOk_of {own : List Nat} (h : hidOk env own = true) : ∀ i ∈ own, Bare env i := fun i hi => by
  have h := List.all_eq_true.mp h i hi
  unfold Bare
  cases e : env[i]? with
  | none => simp [e] at h
  | some x =>
    cases x with
    | none => exact .inl rfl
    | some w =>
      cases w with
      | val t => exact .inr ⟨t, rfl⟩
      | lst ws => simp [e] at h
      | set ws => simp [e] at h
theorem Bare.lt {i : Nat} (h : Bare env i) : i < env.length := by
  rcases h with h | ⟨t, h⟩ <;> exact (List.getElem?_eq_some_iff.mp h).1
/-- setting a bare slot -/
theorem RE.bare {i : Nat} (h : RE K H av env σ A) (b : Bare env i) : (∀ s, RE K H av (env.set i none) (σ.set i s) A) ∧ ∀ t v, Fz K H av t v → RE K H av (env.set i (some (.val t))) (σ.set i (some v)) A := by
  obtain ⟨A1, B, A2, eA, hn, hw, hu⟩ := RE.slot env σ A i h b.lt
  have eB : B = [] := by
    rcases b with b | ⟨t, b⟩
    · exact hn b
    · obtain ⟨v, _, ow⟩ := hw _ b
      exact ow.1
  subst eB
  have eA' : A = A1 ++ A2 := by rw [eA]; rfl
  obtain ⟨q1, q2⟩ := hu H av (fun _ _ q _ => q) (fun _ _ q => q) fun b z => .inl z
  rw [eA']
  exact ⟨q1, fun t v f => q2 (.val t) v [] ⟨rfl, f⟩⟩
theorem wipeE_bare {i : Nat} : ∀ (own : List Nat), (∀ j ∈ own, Bare env j) → Bare env i → Bare (wipeE env own) i
  | [], _, h => h
  | j :: r, ho, h => by
    have ih := wipeE_bare (i := i) r (fun k hk => ho k (List.mem_cons_of_mem _ hk)) h
    unfold wipeE
    by_cases e : j = i
    · subst e
      exact .inl (List.getElem?_set_self ih.lt)
    · unfold Bare
      rw [List.getElem?_set_ne e]
      exact ih
theorem RE.wipe : ∀ (own : List Nat), (∀ j ∈ own, Bare env j) → RE K H av env σ A → RE K H av (wipeE env own) (L2.wipe σ own) A
  | [], _, h => h
  | j :: r, ho, h => by
    have ih := RE.wipe r (fun k hk => ho k (List.mem_cons_of_mem _ hk)) h
    exact (RE.bare ih (wipeE_bare r (fun k hk => ho k (List.mem_cons_of_mem _ hk)) (ho j List.mem_cons_self))).1 none
theorem wipeE_none : ∀ (own : List Nat) (i : Nat), i ∈ own → i < env.length → (wipeE env own)[i]? = some none
  | j :: r, i, hi, hl => by
    unfold wipeE
    have len : ∀ r : List Nat, (wipeE env r).length = env.length := fun r => by
      induction r with
      | nil => rfl
      | cons a r ih => unfold wipeE; rw [List.length_set, ih]
    by_cases e : j = i
    · subst e
      exact List.getElem?_set_self (by rw [len]; exact hl)
    · rw [List.getElem?_set_ne e]
      rcases List.mem_cons.mp hi with z | z
      · exact absurd z.symm e
      · exact wipeE_none r i z hl
/-- the slots of own names as they were -/
def backS (old σ : St) : List Nat → St
  | [] => σ
  | i :: r => (backS old σ r).set i ((old[i]?).getD none)
theorem backS_len (old σ : St) : ∀ own : List Nat, (backS old σ own).length = σ.length
  | [] => rfl
  | i :: r => by unfold backS; rw [List.length_set, backS_len old σ r]
theorem backS_get (old σ : St) (j : Nat) (hj : j < σ.length) (hl : old.length = σ.length) : ∀ own : List Nat, (backS old σ own)[j]? = if j ∈ own then old[j]? else σ[j]?
  | [] => by rw [if_neg (by simp)]; rfl
  | i :: r => by
    unfold backS
    by_cases e : i = j
    · subst e
      rw [List.getElem?_set_self (by rw [backS_len]; exact hj), if_pos List.mem_cons_self]
      rw [List.getElem?_eq_getElem (by omega)]
      rfl
    · rw [List.getElem?_set_ne e, backS_get old σ j hj hl r]
      by_cases c : j ∈ r
      · rw [if_pos c, if_pos (List.mem_cons_of_mem _ c)]
      · rw [if_neg c, if_neg (fun z => (List.mem_cons.mp z).elim (fun z => e z.symm) c)]
theorem backS_wipe (own : List Nat) : backS σ (L2.wipe σ own) own = σ := by
  have hl : σ.length = (L2.wipe σ own).length := (wipe_length σ own).symm
  refine List.ext_getElem? fun j => ?_
  by_cases hj : j < (L2.wipe σ own).length
  · rw [backS_get σ _ j hj hl own]
    by_cases c : j ∈ own
    · rw [if_pos c]
    · rw [if_neg c, wipe_out c]
  · rw [List.getElem?_eq_none (by rw [backS_len]; omega), List.getElem?_eq_none (by omega)]
/-- the own slots come back -/
theorem RE.back {old : Env} {sold : St} : ∀ (own : List Nat), (∀ j ∈ own, Bare env j) → (∀ j ∈ own, old[j]? = some none ∨ ∃ t v, old[j]? = some (some (.val t)) ∧ sold[j]? = some (some v) ∧ Fz K H av t v) → RE K H av env σ A →
    RE K H av (backE old env own) (backS sold σ own) A ∧ ∀ i, Bare env i → Bare (backE old env own) i
  | [], _, _, h => ⟨h, fun _ b => b⟩
  | j :: r, hb, ho, h => by
    obtain ⟨ih, ib⟩ := RE.back (sold := sold) (old := old) r (fun k hk => hb k (List.mem_cons_of_mem _ hk)) (fun k hk => ho k (List.mem_cons_of_mem _ hk)) h
    have bj := ib j (hb j List.mem_cons_self)
    have q := RE.bare ih bj
    unfold backE backS
    rcases ho j List.mem_cons_self with e | ⟨t, v, e, es, f⟩
    · rw [e]
      refine ⟨q.1 _, fun i b => ?_⟩
      by_cases c : j = i
      · subst c
        exact .inl (List.getElem?_set_self bj.lt)
      · unfold Bare
        rw [List.getElem?_set_ne c]
        exact ib i b
    · rw [e, es]
      refine ⟨q.2 t v f, fun i b => ?_⟩
      by_cases c : j = i
      · subst c
        exact .inr ⟨t, List.getElem?_set_self bj.lt⟩
      · unfold Bare
        rw [List.getElem?_set_ne c]
        exact ib i b
/-- an owned object is rewritten -/
theorem Sx.wr (h : Sx K Rt σ H A H1 env1 A1 B) (hD : D ∈ B) (hn : ∀ xs, ¬ Rd H1 D (.tup xs)) : Sx K Rt σ H A (upd H1 D o) env1 A1 B where
  go := ⟨fun b u q n => by
      have e : b ≠ D := fun z => by
        subst z
        rcases h.go.new b (List.mem_append_right _ hD) with z | z
        · exact n z
        · rw [z] at q; cases q
      rw [upd_ne e]
      exact h.go.keep b u q n, fun b xs q => by
      have q1 := h.go.tups b xs q
      have e : b ≠ D := fun z => by subst z; exact hn xs q1
      exact Rd.mono q1 fun u q => by rw [upd_ne e]; exact q, h.go.new⟩
  nd := h.nd
  rt := h.rt
  th := fun b z => by
    by_cases e : b = D
    · subst e; rw [upd_same]; exact fun q => by cases q
    · rw [upd_ne e]; exact h.th b z
  bth := fun b z => by
    by_cases e : b = D
    · subst e; rw [upd_same]; exact fun q => by cases q
    · rw [upd_ne e]; exact h.bth b z
  re := RE.mono env1 σ A1 (fun b u q c => by
    have e : b ≠ D := fun z => by
      subst z
      rcases c with c | c
      · exact h.out hD c
      · exact c (.inl (List.mem_append_right _ hD))
    rw [upd_ne e]; exact q) (fun b xs q => by
    have e : b ≠ D := fun z => by subst z; exact hn xs q
    exact Rd.mono q fun u q => by rw [upd_ne e]; exact q) (fun b z => .inl z) h.re
theorem Sx.ext (h : Sx K Rt σ H A H1 env1 A1 B) (x : ∀ b u, H1 b = some u → H2 b = some u) : Sx K Rt σ H A H2 env1 A1 B where
  go := ⟨fun b u q n => x b u (h.go.keep b u q n), fun b xs q => Rd.mono (h.go.tups b xs q) fun u q => x b u q, h.go.new⟩
  nd := h.nd
  rt := h.rt
  th := fun b z q => by
    cases e : H1 b with
    | none => exact h.th b z e
    | some u => rw [x b u e] at q; cases q
  bth := fun b z q => by
    cases e : H1 b with
    | none => exact h.bth b z e
    | some u => rw [x b u e] at q; cases q
  re := RE.mono env1 σ A1 (fun b u q c => x b u q) (fun b xs q => Rd.mono q fun u q => x b u q) (fun b z => .inl z) h.re
theorem OwnL.snoc : ∀ (ws : List W) (xs : List V) (B : List Addr), OwnL K H av ws xs B → Own K H av w y B2 → OwnL K H av (ws ++ [w]) (xs ++ [y]) (B ++ B2)
  | [], xs, B, g1, g2 => by
    obtain ⟨r1, r2⟩ := g1
    subst r1 r2
    exact ⟨y, [], B2, [], rfl, by simp, g2, rfl, rfl⟩
  | w' :: ws, xs, B, g1, g2 => by
    obtain ⟨v, r, C1, C2, r1, r2, g3, g4⟩ := g1
    subst r1 r2
    exact ⟨v, r ++ [y], C1, C2 ++ B2, rfl, by rw [List.append_assoc], g3, OwnL.snoc ws r C2 g4 g2⟩
/-- one item more in an owned list -/
theorem Own.push (h : Own K H av (.lst ws) (.ref D) (D :: B)) (hw : Own K H av w y B2) (nD : D ∉ B ++ B2) (aD : av D) : ∃ xs, H D = some (.lst xs) ∧ xs.length = ws.length ∧ Own K (upd H D (.lst (xs ++ [y]))) av (.lst (ws ++ [w])) (.ref D) (D :: (B ++ B2)) := by
  obtain ⟨a, xs, B0, e1, e2, hD, hl⟩ := h
  cases e1
  have eB : B = B0 := (List.cons.inj e2).2
  subst eB
  have lD : ∀ xs', ¬ Rd H D (.tup xs') := fun xs' z => by rcases z with z | ⟨o, z⟩ <;> (rw [hD] at z; cases z)
  have kp : ∀ (C : List Addr), D ∉ C → ∀ b u, H b = some u → (b ∈ C ∨ ¬ av b) → upd H D (.lst (xs ++ [y])) b = some u := fun C nC b u q c => by
    have e : b ≠ D := fun z => by
      subst z
      rcases c with c | c
      · exact nC c
      · exact c aD
    rw [upd_ne e]; exact q
  have tp : ∀ b xs', Rd H b (.tup xs') → Rd (upd H D (.lst (xs ++ [y]))) b (.tup xs') := fun b xs' q => by
    have e : b ≠ D := fun z => by subst z; exact lD xs' q
    exact Rd.mono q fun u q => by rw [upd_ne e]; exact q
  have n1 : D ∉ B := fun z => nD (List.mem_append_left _ z)
  have n2 : D ∉ B2 := fun z => nD (List.mem_append_right _ z)
  refine ⟨xs, hD, (OwnL.len ws xs B hl).symm, D, xs ++ [y], B ++ B2, rfl, rfl, upd_same, ?_⟩
  have g1 := OwnL.mono ws xs B (kp B n1) tp (fun b z => .inl z) hl
  have g2 := Own.mono w y B2 (kp B2 n2) tp (fun b z => .inl z) hw
  exact OwnL.snoc ws xs B g1 g2
end
section
variable {K : PySem.W.Frag}
/-! ### targets -/
def tgs : Tg → List Nat
  | .var i => [i]
  | .tup is => is
def gNames : List Nat → TGs
  | [] => gNil
  | i :: r => gCons (gName i) (gNames r)
def gT (K : PySem.W.Frag) : Tg → TG
  | .var i => gName i
  | .tup is => gTup K is.length (gNames is)
theorem Rl.put {Rt : Addr → Prop} {H : Hp} {σ : St} {env : Env} {A : List Addr} {i : Nat} {t : T} {v : V} (h : Rl K Rt H σ env A) (hi : i < env.length) (f : Fz K H (Av A Rt) t v) :
    ∃ A', (∀ b ∈ A', b ∈ A) ∧ Rl K Rt H (σ.set i (some v)) (env.set i (some (.val t))) A' := by
  obtain ⟨A1, B, A2, eA, hn, hw, hu⟩ := RE.slot env σ A i h.re hi
  subst eA
  obtain ⟨nd, out⟩ := nodup_mid h.nd
  have sub : ∀ b ∈ A1 ++ A2, b ∈ A1 ++ (B ++ A2) := fun b z => by
    rcases List.mem_append.mp z with z | z
    · exact List.mem_append_left _ z
    · exact List.mem_append_right _ (List.mem_append_right _ z)
  have suba : ∀ b, Av (A1 ++ A2) Rt b → Av (A1 ++ (B ++ A2)) Rt b := fun b z => z.imp (sub b) id
  refine ⟨A1 ++ A2, sub, nd, fun b hb => h.rt b (sub b hb), h.th, ?_⟩
  exact (hu H (Av (A1 ++ A2) Rt) (fun _ _ q _ => q) (fun _ _ q => q) fun b z => .inl (suba b z)).2 (.val t) v [] ⟨rfl, Fz.mono (fun _ _ q _ => q) (fun _ _ q => q) (fun b z => .inl (suba b z)) t v f⟩
theorem names_ok {Rt : Addr → Prop} {H : Hp} : ∀ (is : List Nat) (ts : List T) (vs : List V) (σ : St) (env : Env) (A : List Addr) (Q : St → Hp → Prop), is.length = ts.length → (∀ i ∈ is, i < env.length) → Rl K Rt H σ env A → FzL K H (Av A Rt) ts vs →
    (∀ σ' A', (∀ b ∈ A', b ∈ A) → Rl K Rt H σ' ((is.zip ts).foldl (fun e p => e.set p.1 (some (.val p.2))) env) A' → (∀ j, j ∉ is → σ'[j]? = σ[j]?) → Q σ' H) → gNames is vs σ H Q
  | [], ts, vs, σ, env, A, Q, hl, _, h, f, k => by
    cases ts with
    | nil =>
      cases (show vs = [] from f)
      exact ⟨rfl, k σ A (fun _ z => z) h fun _ _ => rfl⟩
    | cons t ts => cases hl
  | i :: is, ts, vs, σ, env, A, Q, hl, hi, h, f, k => by
    cases ts with
    | nil => cases hl
    | cons t ts =>
      obtain ⟨v, r, rfl, f1, f2⟩ := f
      obtain ⟨A1, sub, h1⟩ := h.put (hi i List.mem_cons_self) f1
      refine ⟨v, r, rfl, ?_⟩
      refine names_ok is ts r (σ.set i (some v)) (env.set i (some (.val t))) A1 Q (by simpa using hl) (fun j hj => by rw [List.length_set]; exact hi j (List.mem_cons_of_mem _ hj)) h1
        (FzL.mono (fun _ _ q _ => q) (fun _ _ q => q) (fun b z => .inl (z.imp (sub b) id)) ts r f2) fun σ' A' s' h' ks => k σ' A' (fun b hb => sub b (s' b hb)) h' fun j hj => ?_
      rw [ks j (fun z => hj (List.mem_cons_of_mem _ z)), List.getElem?_set_ne (fun z : i = j => hj (by rw [← z]; exact List.mem_cons_self))]
theorem tg_ok {Rt : Addr → Prop} {H : Hp} {σ : St} {env env1 : Env} {A : List Addr} {t : T} {v : V} {Q : St → Hp → Prop} (tg : Tg) (hi : ∀ i ∈ tgs tg, i < env.length) (h : Rl K Rt H σ env A) (f : Fz K H (Av A Rt) t v) (e : tgE tg t env = some env1)
    (k : ∀ σ' A', (∀ b ∈ A', b ∈ A) → Rl K Rt H σ' env1 A' → (∀ j, j ∉ tgs tg → σ'[j]? = σ[j]?) → Q σ' H) : gT K tg v σ H Q := by
  cases tg with
  | var i =>
    have e' : (if i < env.length then some (env.set i (some (.val t))) else none) = some env1 := e
    rw [if_pos (hi i List.mem_cons_self)] at e'
    cases e'
    obtain ⟨A1, sub, h1⟩ := h.put (hi i List.mem_cons_self) f
    exact k _ A1 sub h1 fun j hj => List.getElem?_set_ne fun z : i = j => hj (by rw [← z]; exact List.mem_cons_self)
  | tup is =>
    cases t with
    | tup ts =>
      have e' : (if is.length = ts.length then some ((is.zip ts).foldl (fun e p => e.set p.1 (some (W.val p.2))) env) else none) = some env1 := e
      by_cases c : is.length = ts.length
      · rw [if_pos c] at e'
        cases e'
        obtain ⟨a, xs, rfl, hs, hl⟩ := f
        exact ⟨a, xs, rfl, hs, by rw [← hl.len, c], names_ok is ts xs σ env A Q c hi h hl k⟩
      · rw [if_neg c] at e'; cases e'
    | _ => cases e
end

section
variable {X : Cx} {g : Cfg}
/-- within a comprehension nothing may be raised -/
def Cfg.mute (g : Cfg) : Cfg := { g with W := fun _ _ _ _ => False }
theorem tgE_len {tg : Tg} {t : T} {env env1 : Env} (e : tgE tg t env = some env1) : env1.length = env.length := by
  cases tg with
  | var i =>
    have e' : (if i < env.length then some (env.set i (some (W.val t))) else none) = some env1 := e
    by_cases c : i < env.length
    · rw [if_pos c] at e'; cases e'; rw [List.length_set]
    · rw [if_neg c] at e'; cases e'
  | tup is =>
    cases t with
    | tup ts =>
      have e' : (if is.length = ts.length then some ((is.zip ts).foldl (fun e p => e.set p.1 (some (W.val p.2))) env) else none) = some env1 := e
      by_cases c : is.length = ts.length
      · rw [if_pos c] at e'
        cases e'
        have : ∀ (l : List (Nat × T)) (env : Env), (l.foldl (fun e p => e.set p.1 (some (W.val p.2))) env).length = env.length := by
          intro l
          induction l with
          | nil => intro env; rfl
          | cons p l ih => intro env; rw [List.foldl_cons, ih, List.length_set]
        exact this _ _
      · rw [if_neg c] at e'; cases e'
    | _ => cases e
theorem wipe_in {σ : St} : ∀ (own : List Nat) (j : Nat), j ∈ own → j < σ.length → (L2.wipe σ own)[j]? = some none
  | i :: r, j, hj, hl => by
    show ((L2.wipe σ r).set i none)[j]? = _
    by_cases e : i = j
    · subst e
      exact List.getElem?_set_self (by rw [wipe_length]; exact hl)
    · rw [List.getElem?_set_ne e]
      rcases List.mem_cons.mp hj with z | z
      · exact absurd z.symm e
      · exact wipe_in r j z hl
theorem wipe_eq {σ σ2 : St} {own : List Nat} (hl : σ2.length = σ.length) (h : ∀ j, j ∉ own → σ2[j]? = σ[j]?) : L2.wipe σ2 own = L2.wipe σ own := by
  refine List.ext_getElem? fun j => ?_
  by_cases hj : j < σ.length
  · by_cases c : j ∈ own
    · rw [wipe_in own j c hj, wipe_in own j c (by omega)]
    · rw [wipe_out c, wipe_out c, h j c]
  · rw [List.getElem?_eq_none (by rw [wipe_length]; omega), List.getElem?_eq_none (by rw [wipe_length]; omega)]
section
variable {K : PySem.W.Frag} {Rt : Addr → Prop} {H H1 H2 : Hp} {σ σ2 : St} {env1 env2 : Env} {A A1 A2 B B1 B2 : List Addr}
theorem Sx.retg (s : Sx K Rt σ H A H1 env1 A1 B) (r : Rl K (RtB B Rt) H1 σ2 env2 A2) (sub : ∀ b ∈ A2, b ∈ A1) : Sx K Rt σ2 H A H1 env2 A2 B where
  go := s.go.sub fun b hb => by
    rcases List.mem_append.mp hb with z | z
    · exact List.mem_append_left _ (sub b z)
    · exact List.mem_append_right _ z
  nd := by
    have d := List.nodup_append.mp s.nd
    exact List.nodup_append.mpr ⟨r.nd, d.2.1, fun a ha b hb e => d.2.2 a (sub a ha) b hb e⟩
  rt := fun b hb => s.rt b (by
    rcases List.mem_append.mp hb with z | z
    · exact List.mem_append_left _ (sub b z)
    · exact List.mem_append_right _ z)
  th := s.th
  bth := s.bth
  re := RE.mono env2 σ2 A2 (fun b o q _ => q) (fun _ _ q => q) (fun b z => .inl (by
    rcases z with z | z
    · rcases List.mem_append.mp z with z | z
      · exact .inl z
      · exact .inr (.inl z)
    · exact .inr (.inr z))) r.re
theorem Sx.nextP {σ0 : St} {J : L2.It} {ts : List T} {P : Hp → (Addr → Prop) → Prop} (jt : Jt K J ts P) (h : Sx K Rt σ0 H A H1 env1 A1 B1) (n : Sx K (RtB B1 Rt) σ H1 A1 H2 env2 A2 B2) (p : P H1 (Av (A1 ++ B1) Rt)) : P H2 (Av (A2 ++ (B1 ++ B2)) Rt) :=
  jt.mono _ _ _ _ p (fun b o q c => n.go.keep b o q fun z => c (.inl (List.mem_append_left _ z))) n.go.tups (h.hav n)
end
theorem lc_ev {own : List Nat} {tgi : Tg} {it : Ev.It} {cs : Tts} {e : E} {σ : St} {H : Hp} {Q : VK} (hlen : ∀ i ∈ tgs tgi, i < X.N.length) (hσ : σ.length = X.N.length) (h : tE X.K g (.lc own tgi it cs e) σ H Q) :
    tLc (tI X.K g it) (gT X.K tgi) (tTs X.K g.mute cs) (tE X.K g.mute e) own σ H Q := by
  obtain ⟨Rt, env, A, rl, p⟩ := h
  have hel : env.length = X.N.length := by rw [RE.len _ _ _ rl.re, hσ]
  refine ⟨Rt, env, A, rl, Post.seqE p fun ts e1 J H1 A1 B1 er s1 o1 p1 => ?_⟩
  obtain ⟨rfl, P, jt, pP⟩ := o1
  intro D hD
  have p2 : Post X.K g (PO1 X.K) Rt σ H A (if (hidOk e1 own && tgIn tgi own) = true then (match lcL tgi own (evTs g.G g.C cs) (evE g.G g.C e) ts [] (wipeE e1 own) with
    | .ok ws env2 => .ok (.lst ws) (backE e1 env2 own)
    | _ => .no) else .no) Q := p1
  have c0 : (hidOk e1 own && tgIn tgi own) = true := by
    by_cases c : (hidOk e1 own && tgIn tgi own) = true
    · exact c
    · rw [if_neg c] at p2; exact p2.elim
  rw [if_pos c0] at p2
  rw [Bool.and_eq_true] at c0
  obtain ⟨hid, tin⟩ := c0
  have bare := hidOk_of hid
  cases el : lcL tgi own (evTs g.G g.C cs) (evE g.G g.C e) ts [] (wipeE e1 own) with
  | exc _ _ _ => rw [el] at p2; exact p2.elim
  | no => rw [el] at p2; exact p2.elim
  | ok wsF envF =>
  rw [el] at p2
  have re1 : RE X.K H1 (Av (A1 ++ []) Rt) e1 σ A1 := s1.re
  have len1 : e1.length = X.N.length := by rw [RE.len _ _ _ re1, hσ]
  -- the old values of the own slots, wherever what was frozen stands
  have olds : ∀ (Hc : Hp) (A' : List Addr), Go A1 H1 A' Hc → ∀ j ∈ own, e1[j]? = some none ∨ ∃ t v, e1[j]? = some (some (.val t)) ∧ σ[j]? = some (some v) ∧ Fz X.K Hc (Av A' Rt) t v := fun Hc A' go j hj => by
    rcases bare j hj with z | ⟨t, z⟩
    · exact .inl z
    · obtain ⟨_, _, _, _, _, hw, _⟩ := RE.slot e1 σ A1 j re1 (List.getElem?_eq_some_iff.mp z).1
      obtain ⟨v, ev, ow⟩ := hw _ z
      refine .inr ⟨t, v, z, ev, Fz.mono (fun b o q n => go.keep b o q fun z => n (.inl (List.mem_append_left _ z))) go.tups (fun b z => ?_) t v ow.2⟩
      rcases z with z | z
      · exact (go.new b z).imp (fun z => .inl (List.mem_append_left _ z)) id
      · exact .inl (.inr z)
  have tgin : ∀ i ∈ tgs tgi, i ∈ own := fun i hi => by
    cases tgi with
    | var k =>
      rcases List.mem_cons.mp hi with rfl | z
      · exact List.contains_iff_mem.mp tin
      · cases z
    | tup is => exact List.contains_iff_mem.mp (List.all_eq_true.mp tin i hi)
  refine ⟨fun i m Hc => m = ts.length - i ∧ i ≤ ts.length ∧ ∃ envi Ai acc B, lcL tgi own (evTs g.G g.C cs) (evE g.G g.C e) (ts.drop i) acc envi = .ok wsF envF ∧ Sx X.K Rt (L2.wipe σ own) H A Hc envi Ai (D :: B) ∧
      Own X.K Hc (Av (Ai ++ (D :: B)) Rt) (.lst acc) (.ref D) (D :: B) ∧ P Hc (Av (Ai ++ (D :: B)) Rt) ∧ Go A1 H1 (Ai ++ (D :: B)) Hc ∧ ∀ j ∈ own, envi[j]? = some none, ⟨ts.length, ?_⟩, ?_⟩
  · -- the start
    have s2 : Sx X.K Rt σ H A (upd H1 D (.lst [])) e1 A1 [D] := s1.new hD
    refine ⟨by simp, Nat.zero_le _, wipeE e1 own, A1, [], [], by simpa using el, ⟨s2.go, s2.nd, s2.rt, s2.th, s2.bth, RE.wipe own bare s2.re⟩, ⟨D, [], [], rfl, rfl, upd_same, rfl, rfl⟩, ?_, ?_, fun j hj => wipeE_none own j hj (bare j hj).lt⟩
    · exact jt.mono _ _ _ _ pP (fun b o q _ => newkeep hD b o q) (newtups hD) (Sx.newav hD)
    · exact ((Go.refl (A := A1) (H := H1)).upd hD).sub fun b hb => by
        rcases List.mem_append.mp hb with z | z
        · exact List.mem_cons_of_mem _ z
        · rcases List.mem_cons.mp z with rfl | z
          · exact List.mem_cons_self
          · cases z
  · rintro i m Hc ⟨rfl, hile, envi, Ai, acc, B, eL, sx, ow, pH, go, nones⟩
    by_cases hlt : i < ts.length
    · have et : ts.drop i = ts[i] :: ts.drop (i + 1) := List.drop_eq_getElem_cons hlt
      have gi : ts[i]? = some ts[i] := List.getElem?_eq_getElem hlt
      rw [et] at eL
      have eL0 : (match tgE tgi ts[i] envi with
        | none => R.no
        | some env1 => (evTs g.G g.C cs env1).bind fun b env2 => match b with
          | true => (evE g.G g.C e env2).bind fun w env3 => if (decide (acc.length < 16777216) && hidOk env3 own) = true then lcL tgi own (evTs g.G g.C cs) (evE g.G g.C e) (ts.drop (i + 1)) (acc ++ [w]) (wipeE env3 own) else .no
          | false => if hidOk env2 own = true then lcL tgi own (evTs g.G g.C cs) (evE g.G g.C e) (ts.drop (i + 1)) acc (wipeE env2 own) else .no) = .ok wsF envF := eL
      cases etg : tgE tgi ts[i] envi with
      | none => rw [etg] at eL0; cases eL0
      | some env1 =>
      rw [etg] at eL0
      obtain ⟨b, env2, eb, eL1⟩ := bind_ok eL0
      refine .inr ⟨jt.go Hc _ i _ pH gi, fun Hn => ∃ envi Ai acc B, lcL tgi own (evTs g.G g.C cs) (evE g.G g.C e) (ts.drop (i + 1)) acc envi = .ok wsF envF ∧ Sx X.K Rt (L2.wipe σ own) H A Hn envi Ai (D :: B) ∧
        Own X.K Hn (Av (Ai ++ (D :: B)) Rt) (.lst acc) (.ref D) (D :: B) ∧ P Hn (Av (Ai ++ (D :: B)) Rt) ∧ Go A1 H1 (Ai ++ (D :: B)) Hn ∧ ∀ j ∈ own, envi[j]? = some none, fun Hn w => ⟨ts.length - (i + 1), by omega, rfl, hlt, w⟩, fun x Hy y => ?_⟩
      obtain ⟨ext, fx⟩ := jt.yld Hc _ i _ x Hy pH gi y
      have sx1 := sx.ext ext
      have ow1 : Own X.K Hy (Av (Ai ++ (D :: B)) Rt) (.lst acc) (.ref D) (D :: B) := Own.mono _ _ _ (fun b o q _ => ext b o q) (fun b xs q => Rd.mono q fun o q => ext b o q) (fun b z => .inl z) ow
      have pH1 : P Hy (Av (Ai ++ (D :: B)) Rt) := jt.mono _ _ _ _ pH (fun b o q _ => ext b o q) (fun b xs q => Rd.mono q fun o q => ext b o q) (fun b z => .inl z)
      have go1 : Go A1 H1 (Ai ++ (D :: B)) Hy := ⟨fun b o q n => ext b o (go.keep b o q n), fun b xs q => Rd.mono (go.tups b xs q) fun o q => ext b o q, go.new⟩
      have elen : envi.length = X.N.length := by rw [RE.len _ _ _ sx.re, wipe_length, hσ]
      have fx1 : Fz X.K Hy (Av Ai (RtB (D :: B) Rt)) ts[i] x := Fz.mono (fun _ _ q _ => q) (fun _ _ q => q) (fun b z => .inl (by
        rcases z with z | z | z
        · exact .inl (List.mem_append_left _ z)
        · exact .inl (List.mem_append_right _ z)
        · exact .inr z)) _ _ fx
      refine tg_ok tgi (fun j hj => by rw [elen]; exact hlen j hj) sx1.rl fx1 etg fun σ2 A2 sub rl2 kσ => ?_
      have l2 : σ2.length = σ.length := by
        rw [← RE.len _ _ _ rl2.re, tgE_len etg, elen, hσ]
      have weq : L2.wipe σ2 own = L2.wipe σ own := by
        refine wipe_eq l2 fun j hj => ?_
        rw [kσ j (fun z => hj (tgin j z)), wipe_out hj]
      refine ⟨weq, RtB (D :: B) Rt, env1, A2, rl2, ?_⟩
      have sxT : Sx X.K Rt σ2 H A Hy env1 A2 (D :: B) := sx1.retg rl2 sub
      have suba : ∀ b, Av (A2 ++ (D :: B)) Rt b → Av (Ai ++ (D :: B)) Rt b := fun b z => by
        rcases z with z | z
        · rcases List.mem_append.mp z with z | z
          · exact .inl (List.mem_append_left _ (sub b z))
          · exact .inl (List.mem_append_right _ z)
        · exact .inr z
      have owT : Own X.K Hy (Av (A2 ++ (D :: B)) Rt) (.lst acc) (.ref D) (D :: B) := Own.mono _ _ _ (fun _ _ q _ => q) (fun _ _ q => q) (fun b z => .inl (suba b z)) ow1
      have pT : P Hy (Av (A2 ++ (D :: B)) Rt) := jt.mono _ _ _ _ pH1 (fun _ _ q _ => q) (fun _ _ q => q) (fun b z => .inl (suba b z))
      have goT : Go A1 H1 (A2 ++ (D :: B)) Hy := go1.sub fun b hb => by
        rcases List.mem_append.mp hb with z | z
        · exact List.mem_append_left _ (sub b z)
        · exact List.mem_append_right _ z
      show Post X.K g.mute PBl (RtB (D :: B) Rt) σ2 Hy A2 (evTs g.G g.C cs env1) _
      rw [eb]
      intro b' H3 A3 B3 s3 hb3
      obtain ⟨e3, e4⟩ := hb3
      subst e3 e4
      have s4 : Sx X.K Rt σ2 H A H3 env2 A3 (D :: B) := by
        have := sxT.next s3
        rw [List.append_nil] at this
        exact this
      have ow3 : Own X.K H3 (Av (A3 ++ (D :: B)) Rt) (.lst acc) (.ref D) (D :: B) := by
        have := sxT.own s3 owT
        rw [List.append_nil] at this
        exact this
      have p3 : P H3 (Av (A3 ++ (D :: B)) Rt) := by
        have := sxT.nextP jt s3 pT
        rw [List.append_nil] at this
        exact this
      have go3 : Go A1 H1 (A3 ++ (D :: B)) H3 := by
        have := goT.trans (show Go A2 Hy A3 H3 from s3.go.sub fun b hb => List.mem_append_left _ hb)
        exact this
      cases b' with
      | false =>
        have eL2 : (if hidOk env2 own = true then lcL tgi own (evTs g.G g.C cs) (evE g.G g.C e) (ts.drop (i + 1)) acc (wipeE env2 own) else .no) = .ok wsF envF := eL1
        by_cases c : hidOk env2 own = true
        · rw [if_pos c] at eL2
          have b2 := hidOk_of c
          have rw2 := RE.wipe own b2 s4.re
          rw [weq] at rw2
          exact ⟨wipeE env2 own, A3, acc, B, eL2, ⟨s4.go, s4.nd, s4.rt, s4.th, s4.bth, rw2⟩, ow3, p3, go3, fun j hj => wipeE_none own j hj (b2 j hj).lt⟩
        · rw [if_neg c] at eL2; cases eL2
      | true =>
        obtain ⟨w, env3, ew, eL2⟩ := bind_ok (show ((evE g.G g.C e env2).bind fun w env3 => if (decide (acc.length < 16777216) && hidOk env3 own) = true then lcL tgi own (evTs g.G g.C cs) (evE g.G g.C e) (ts.drop (i + 1)) (acc ++ [w]) (wipeE env3 own) else .no) = .ok wsF envF from eL1)
        refine ⟨RtB (D :: B) Rt, env2, A3, s4.rl, ?_⟩
        show Post X.K g.mute (PO1 X.K) (RtB (D :: B) Rt) σ2 H3 A3 (evE g.G g.C e env2) _
        rw [ew]
        intro yv H4 A4 B4 s5 o5
        have s6 : Sx X.K Rt σ2 H A H4 env3 A4 (D :: (B ++ B4)) := s4.next s5
        have ow4 : Own X.K H4 (Av (A4 ++ (D :: (B ++ B4))) Rt) (.lst acc) (.ref D) (D :: B) := s4.own s5 ow3
        have o6 : Own X.K H4 (Av (A4 ++ (D :: (B ++ B4))) Rt) w yv B4 := Sx.own2 (B1 := D :: B) o5
        have p4 : P H4 (Av (A4 ++ (D :: (B ++ B4))) Rt) := s4.nextP jt s5 p3
        have go4 : Go A1 H1 (A4 ++ (D :: (B ++ B4))) H4 := (go3.trans s5.go).sub fun b hb => by
          rcases List.mem_append.mp hb with z | z
          · exact List.mem_append_left _ (List.mem_append_left _ z)
          · rcases List.mem_cons.mp z with rfl | z
            · exact List.mem_append_right _ List.mem_cons_self
            · rcases List.mem_append.mp z with z | z
              · exact List.mem_append_right _ (List.mem_cons_of_mem _ z)
              · exact List.mem_append_left _ (List.mem_append_right _ z)
        by_cases c : (decide (acc.length < 16777216) && hidOk env3 own) = true
        · rw [if_pos c] at eL2
          rw [Bool.and_eq_true] at c
          have nD : D ∉ B ++ B4 := (List.nodup_cons.mp (List.nodup_append.mp s6.nd).2.1).1
          have aD : Av (A4 ++ (D :: (B ++ B4))) Rt D := .inl (List.mem_append_right _ List.mem_cons_self)
          obtain ⟨xs, hxs, hxl, owN⟩ := Own.push ow4 o6 nD aD
          have lD : ∀ xs', ¬ Rd H4 D (.tup xs') := fun xs' z => by rcases z with z | ⟨o, z⟩ <;> (rw [hxs] at z; cases z)
          have s7 := s6.wr (o := .lst (xs ++ [yv])) List.mem_cons_self lD
          have b2 := hidOk_of c.2
          have rw2 := RE.wipe own b2 s7.re
          rw [weq] at rw2
          refine ⟨xs, hxs, by rw [sizeLine_eq, hxl]; exact of_decide_eq_true c.1, wipeE env3 own, A4, acc ++ [w], B ++ B4, eL2, ⟨s7.go, s7.nd, s7.rt, s7.th, s7.bth, rw2⟩, owN, ?_, ?_, fun j hj => wipeE_none own j hj (b2 j hj).lt⟩
          · refine jt.mono _ _ _ _ p4 (fun b o q n => ?_) (fun b xs' q => ?_) (fun b z => .inl z)
            · rw [upd_ne (fun z => n (by rw [z]; exact aD))]; exact q
            · have ne : b ≠ D := fun z => by subst z; exact lD xs' q
              exact Rd.mono q fun u q => by rw [upd_ne ne]; exact q
          · refine ⟨fun b o q n => ?_, fun b xs' q => ?_, go4.new⟩
            · have q4 := go4.keep b o q n
              have ne : b ≠ D := fun z => by
                subst z
                rw [hD] at q; cases q
              rw [upd_ne ne]; exact q4
            · have q4 := go4.tups b xs' q
              have ne : b ≠ D := fun z => by subst z; exact lD xs' q4
              exact Rd.mono q4 fun u q => by rw [upd_ne ne]; exact q
        · rw [if_neg c] at eL2; cases eL2
    · -- the end
      have ei : i = ts.length := by omega
      subst ei
      rw [List.drop_length] at eL
      cases (show R.ok acc envi = R.ok wsF envF from eL)
      refine .inl ⟨jt.stop Hc _ _ pH (Nat.le_refl _), ?_⟩
      have rb := (RE.back own (fun j hj => .inl (nones j hj)) (olds Hc (Ai ++ (D :: B)) go) sx.re).1
      rw [backS_wipe] at rb
      exact p2 (.ref D) Hc Ai (D :: B) ⟨sx.go, sx.nd, sx.rt, sx.th, sx.bth, rb⟩ ow
theorem snd_lc {elt tg iter : Expr} {ifs : List Expr} {scope : Scope} {own' : List (Str × Nat)} {own : List Nat} {pos : Pos} {tgi : Tg} {it : Ev.It} {cs : Tts} {e : E} (eo : own'.map (·.2) = own) (hc : X.calm = true) (hN : X.N.Nodup)
    (hi : PI X tg iter (tI X.K g it)) (ok : BlkOk X.N X.env.scope scope own') (hlen : ∀ i ∈ tgs tgi, i < X.N.length)
    (hg : ∀ (s : Shared) (H : Hp) (C : Addr) (cl : List (Str × Addr)) (fp : List Addr), PG (X.blk s H scope (compEnvC scope cl C X.env) fp) tg (gT X.K tgi))
    (ht : ∀ (s : Shared) (H : Hp) (C : Addr) (cl : List (Str × Addr)) (fp : List Addr), PTs (X.blk s H scope (compEnvC scope cl C X.env) fp) ifs (tTs X.K g.mute cs))
    (he : ∀ (s : Shared) (H : Hp) (C : Addr) (cl : List (Str × Addr)) (fp : List Addr), PE (X.blk s H scope (compEnvC scope cl C X.env) fp) elt (tE X.K g.mute e)) (hs : ∀ x, foldedSetIterable iter X.env x = pure x) :
    PE X (.ListComp elt [⟨tg, iter, ifs, 0⟩] scope pos) (tE X.K g (.lc own tgi it cs e)) := by
  subst eo
  exact ⟨fun pins s σ H Q I h => (pe_lc hc hN hi ok hg ht he hs).run pins s σ H Q I (lc_ev hlen I.len h)⟩
end
end Ev
set_option maxHeartbeats 4000000
/-! Ev9: statements. -/
namespace Ev
open PySem L2
/-- the kept slots -/
def Kp (ks : List Nat) (σ σ' : St) : Prop := σ'.length = σ.length ∧ ∀ j ∈ ks, σ'[j]? = σ[j]?
theorem Kp.refl {ks : List Nat} {σ : St} : Kp ks σ σ := ⟨rfl, fun _ _ => rfl⟩
theorem Kp.trans {ks : List Nat} {σ σ1 σ2 : St} (h : Kp ks σ σ1) (h2 : Kp ks σ1 σ2) : Kp ks σ σ2 := ⟨h2.1.trans h.1, fun j hj => (h2.2 j hj).trans (h.2 j hj)⟩
theorem Kp.set {ks : List Nat} {σ : St} {i : Nat} {o : Option V} (h : ks.contains i = false) : Kp ks σ (σ.set i o) := ⟨List.length_set, fun j hj => List.getElem?_set_ne fun z : i = j => by
  subst z
  rw [List.contains_iff_mem.mpr hj] at h
  cases h⟩
section
variable (K : PySem.W.Frag) (g : Cfg) (ks : List Nat)
def PostS (Rt : Addr → Prop) (σ : St) (H : Hp) (A : List Addr) (r : R F) (D : Ends) : Prop := match r with
  | .ok .nx env => ∀ σ' H' A', Kp ks σ σ' → Sx K Rt σ' H A H' env A' [] → D.nx σ' H'
  | .ok .bk env => ∀ σ' H' A', Kp ks σ σ' → Sx K Rt σ' H A H' env A' [] → D.bk σ' H'
  | .ok .ct env => ∀ σ' H' A', Kp ks σ σ' → Sx K Rt σ' H A H' env A' [] → D.ct σ' H'
  | .ok (.rt w) env => ∀ v σ' H' A' B, Kp ks σ σ' → Sx K Rt σ' H A H' env A' B → Own K H' (Av (A' ++ B) Rt) w v B → D.rt v H'
  | .exc c t env => ∀ cls d σ' H' A', Kp ks σ σ' → Sx K Rt σ' H A H' env A' [] → g.xr c t H' (Av (A' ++ []) Rt) cls d → g.W cls d σ' H'
  | .no => False
def tS (s : S) : TS := fun D σ H => ∃ Rt env A, Rl K Rt H σ env A ∧ PostS K g ks Rt σ H A (evS g.G g.C s env) D
def tSs (s : Ss) : TS := fun D σ H => ∃ Rt env A, Rl K Rt H σ env A ∧ PostS K g ks Rt σ H A (evSs g.G g.C s env) D
end
theorem PS.imp {X : Cx} {s : Stmt} {t t' : TS} (h : PS X s t) (i : ∀ D σ H, σ.length = X.N.length → t' D σ H → t D σ H) : PS X s t' := ⟨fun pins s σ H Q I q => h.run pins s σ H Q I (i Q σ H I.len q)⟩
theorem PSs.imp {X : Cx} {s : List Stmt} {t t' : TS} (h : PSs X s t) (i : ∀ D σ H, σ.length = X.N.length → t' D σ H → t D σ H) : PSs X s t' := ⟨fun pins s σ H Q I q => h.run pins s σ H Q I (i Q σ H I.len q)⟩
section
variable {K : PySem.W.Frag} {g : Cfg} {ks : List Nat} {α β : Type} {Pa : α → β → Hp → (Addr → Prop) → List Addr → Prop}
variable {Rt : Addr → Prop} {σ σ1 : St} {H H1 H2 : Hp} {A A1 A2 B B1 B2 D : List Addr} {env env1 env2 : Env} {r : R α} {rf : R F} {f : α → Env → R F} {De : Ends} {Q1 : β → Hp → Prop} {w : W} {v : V} {i : Nat}
/-- an expression, then the rest of a statement -/
theorem PostS.seq (h : PostS K g ks Rt σ H A (r.bind f) De) (k : ∀ a e1 b H1 A1 B1, Sx K Rt σ H A H1 e1 A1 B1 → Pa a b H1 (Av (A1 ++ B1) Rt) B1 → PostS K g ks Rt σ H A (f a e1) De → Q1 b H1) : Post K g Pa Rt σ H A r Q1 := by
  cases r with
  | ok a e1 => exact fun b H' A' B' sx p => k a e1 b H' A' B' sx p h
  | exc c t e1 => exact fun cls d H' A' sx p => h cls d σ H' A' Kp.refl sx p
  | no => exact h
theorem PostS.seq2 (s1 : Sx K Rt σ H A H1 env1 A1 B1) (h : PostS K g ks Rt σ H A (r.bind f) De)
    (k : ∀ a e2 b H2 A2 B2, Sx K (RtB B1 Rt) σ H1 A1 H2 e2 A2 B2 → Pa a b H2 (Av (A2 ++ B2) (RtB B1 Rt)) B2 → PostS K g ks Rt σ H A (f a e2) De → Q1 b H2) : Post K g Pa (RtB B1 Rt) σ H1 A1 r Q1 := by
  cases r with
  | ok a e1 => exact fun b H' A' B' sx p => k a e1 b H' A' B' sx p h
  | exc c t e1 =>
    refine fun cls d H' A' sx p => h cls d σ H' A' Kp.refl (s1.next sx).drop0 (g.xm c t H' _ _ cls d (fun b z => ?_) p)
    rcases z with z | z
    · exact .inl z
    · exact .inr (.inr z)
  | no => exact h
theorem PostS.shift (kp : Kp ks σ σ1) (s1 : Sx K Rt σ1 H A H1 env1 A1 []) (h : PostS K g ks Rt σ H A rf De) : PostS K g ks Rt σ1 H1 A1 rf De := by
  cases rf with
  | ok a e =>
    cases a with
    | nx => exact fun σ' H' A' k sx => h σ' H' A' (kp.trans k) (s1.next0 sx)
    | bk => exact fun σ' H' A' k sx => h σ' H' A' (kp.trans k) (s1.next0 sx)
    | ct => exact fun σ' H' A' k sx => h σ' H' A' (kp.trans k) (s1.next0 sx)
    | rt w => exact fun v σ' H' A' B' k sx ow => h v σ' H' A' B' (kp.trans k) (s1.next0 sx) ow
  | exc c t e => exact fun cls d σ' H' A' k sx p => h cls d σ' H' A' (kp.trans k) (s1.next0 sx) p
  | no => exact h
theorem perm_nodup {a b : List Addr} (h : a.Perm b) (n : a.Nodup) : b.Nodup := h.nodup_iff.mp n
theorem put_nodup {C1 C2 Bo B D : List Addr} (h : ((C1 ++ (Bo ++ C2)) ++ (B ++ D)).Nodup) : ((C1 ++ (B ++ C2)) ++ D).Nodup := by
  have p : ((C1 ++ (Bo ++ C2)) ++ (B ++ D)).Perm (Bo ++ ((C1 ++ (B ++ C2)) ++ D)) := by
    rw [List.perm_iff_count]
    intro a
    simp only [List.count_append]
    omega
  exact (List.nodup_append.mp (perm_nodup p h)).2.1
/-- a slot takes a value -/
theorem Sx.put (s : Sx K Rt σ H A H1 env A1 (B ++ D)) (ow : Own K H1 (Av (A1 ++ (B ++ D)) Rt) w v B) (hi : i < env.length) :
    ∃ A', Sx K Rt (σ.set i (some v)) H A H1 (env.set i (some w)) A' D ∧ ∀ b, Av (A' ++ D) Rt b → Av (A1 ++ (B ++ D)) Rt b := by
  obtain ⟨C1, Bo, C2, eA, hn, hw, hu⟩ := RE.slot env σ A1 i s.re hi
  subst eA
  have sub : ∀ b ∈ (C1 ++ (B ++ C2)) ++ D, b ∈ (C1 ++ (Bo ++ C2)) ++ (B ++ D) := fun b z => by
    simp only [List.mem_append] at z ⊢
    rcases z with (z | z | z) | z
    · exact .inl (.inl z)
    · exact .inr (.inl z)
    · exact .inl (.inr (.inr z))
    · exact .inr (.inr z)
  have suba : ∀ b, Av ((C1 ++ (B ++ C2)) ++ D) Rt b → Av ((C1 ++ (Bo ++ C2)) ++ (B ++ D)) Rt b := fun b z => z.imp (sub b) id
  refine ⟨C1 ++ (B ++ C2), ⟨s.go.sub sub, put_nodup s.nd, fun b hb => s.rt b (sub b hb), s.th, fun b hb => s.bth b (List.mem_append_right _ hb), ?_⟩, suba⟩
  exact (hu H1 _ (fun _ _ q _ => q) (fun _ _ q => q) fun b z => .inl (suba b z)).2 w v B (Own.mono w v B (fun _ _ q _ => q) (fun _ _ q => q) (fun b z => .inl (suba b z)) ow)
theorem Sx.put0 (s : Sx K Rt σ H A H1 env A1 B) (ow : Own K H1 (Av (A1 ++ B) Rt) w v B) (hi : i < env.length) :
    ∃ A', Sx K Rt (σ.set i (some v)) H A H1 (env.set i (some w)) A' [] := by
  have e : B ++ [] = B := List.append_nil _
  rw [← e] at s
  have ow' : Own K H1 (Av (A1 ++ (B ++ [])) Rt) w v B := by rw [e]; exact ow
  obtain ⟨A', h, _⟩ := s.put ow' hi
  exact ⟨A', h⟩
/-- several slots take values -/
theorem Sx.puts : ∀ (is : List Nat) (ws : List W) (vs : List V) (σ : St) (env : Env) (A1 B : List Addr), is.length = ws.length → (∀ i ∈ is, i < env.length) → Sx K Rt σ H A H1 env A1 B → OwnL K H1 (Av (A1 ++ B) Rt) ws vs B →
    ∃ A', Sx K Rt ((is.zip vs).foldl (fun e p => e.set p.1 (some p.2)) σ) H A H1 ((is.zip ws).foldl (fun e p => e.set p.1 (some p.2)) env) A' []
  | [], [], vs, σ, env, A1, B, _, _, s, ow => by
    obtain ⟨rfl, rfl⟩ := ow
    exact ⟨A1, s⟩
  | [], w :: ws, vs, σ, env, A1, B, hl, _, s, ow => by cases hl
  | i :: is, [], vs, σ, env, A1, B, hl, _, s, ow => by cases hl
  | i :: is, w :: ws, vs, σ, env, A1, B, hl, hi, s, ow => by
    obtain ⟨v, r, B1, B2, rfl, rfl, o1, o2⟩ := ow
    obtain ⟨A', s', suba⟩ := s.put o1 (hi i List.mem_cons_self)
    exact Sx.puts is ws r _ _ A' B2 (by simpa using hl) (fun j hj => by rw [List.length_set]; exact hi j (List.mem_cons_of_mem _ hj)) s' (OwnL.mono ws r B2 (fun _ _ q _ => q) (fun _ _ q => q) (fun b z => .inl (suba b z)) o2)
theorem Kp.sets : ∀ (is : List Nat) (vs : List V) (σ : St), (∀ i ∈ is, ks.contains i = false) → Kp ks σ ((is.zip vs).foldl (fun e p => e.set p.1 (some p.2)) σ)
  | [], _, σ, _ => Kp.refl
  | _ :: _, [], σ, _ => Kp.refl
  | i :: is, v :: vs, σ, h => (Kp.set (h i List.mem_cons_self)).trans (Kp.sets is vs _ fun j hj => h j (List.mem_cons_of_mem _ hj))
end
section
variable {X : Cx} {g : Cfg} {ks : List Nat} {pos pos' : Pos} {a b c : Expr} {ia ib ic : E} {ja jb : Tt} {i : Nat} {x : Str} {st : Stmt} {rest : List Stmt} {s : S} {ss s1 s2 : Ss}
theorem lt_N {l : List Str} (h : l[i]? = some x) : i < l.length := (List.getElem?_eq_some_iff.mp h).1
/-! ### blocks -/
theorem sns_nil : PSs X [] (tSs X.K g ks .nil) := PSs.imp pss_nil fun D σ H hl ⟨Rt, env, A, rl, p⟩ => p σ H A Kp.refl rl.sx
theorem sns_cons (h1 : PS X st (tS X.K g ks s)) (h2 : PSs X rest (tSs X.K g ks ss)) : PSs X (st :: rest) (tSs X.K g ks (.cons s ss)) :=
  PSs.imp (pss_cons h1 h2) fun D σ H hl ⟨Rt, env, A, rl, p⟩ => by
    refine ⟨Rt, env, A, rl, ?_⟩
    have p' : PostS X.K g ks Rt σ H A ((evS g.G g.C s env).bind fun f env1 => (match f with | .nx => evSs g.G g.C ss env1 | f => .ok f env1)) D := p
    cases e : evS g.G g.C s env with
    | ok f env1 =>
      rw [e] at p'
      cases f with
      | nx => exact fun σ' H' A' kp sx => ⟨Rt, env1, A', sx.rl0, PostS.shift kp sx p'⟩
      | rt w => exact p'
      | bk => exact p'
      | ct => exact p'
    | exc c t env1 => rw [e] at p'; exact p'
    | no => rw [e] at p'; exact p'
theorem sns_never : PSs X rest (tSs X.K g ks (.cons .never ss)) := ⟨fun _ _ _ _ _ _ ⟨Rt, env, A, rl, p⟩ => by
  have p' : PostS X.K g ks Rt _ _ A R.no _ := p
  exact p'.elim⟩
theorem sns_doc {y : Str} {j : Nat} {p1 p2 : Pos} (h2 : PSs X rest (tSs X.K g ks ss)) : PSs X (.Expr (.Constant (.str y) j p1) p2 :: rest) (tSs X.K g ks ss) := PSs.imp (pss_cons ps_doc h2) fun D σ H hl h => h
/-! ### statements -/
theorem sns_asg (hN : X.N.Nodup) (hi : X.N[i]? = some x) (hx : Loc X.env.scope x) (he : PE X a (tE X.K g ia)) (hk : ks.contains i = false) (hs : swapsWith a (some (.Name x pos')) pos.line X.env = pure false) (hf : X.fn x = true ∨ X.env.scope.names.lookup x = some .local) :
    PS X (.Assign [.Name x pos'] a pos) (tS X.K g ks (.asg i ia)) :=
  PS.imp (ps_set hN hi hx he hs hf) fun D σ H hl ⟨Rt, env, A, rl, p⟩ => by
    refine ⟨Rt, env, A, rl, PostS.seq p fun w e1 v H1 A1 B1 s1 o1 p1 => ?_⟩
    have len : i < e1.length := by rw [RE.len _ _ _ s1.re, hl]; exact lt_N hi
    obtain ⟨A', s2⟩ := s1.put0 o1 len
    exact p1 _ H1 A' (Kp.set hk) s2
/-- name = a list comprehension on one line -/
theorem sns_asgLc {elt tg iter : Expr} {ifs : List Expr} {scope : Scope} {own' : List (Str × Nat)} {own : List Nat} {posc : Pos} {tgi : Tg} {it : Ev.It} {cs : Tts} {e : E} (eo : own'.map (·.2) = own) (hc : X.calm = true) (hN : X.N.Nodup)
    (hi : X.N[i]? = some x) (hyl : X.env.scope.names.lookup x = some .local) (hk : ks.contains i = false)
    (hsw : swapsWith (.ListComp elt [⟨tg, iter, ifs, 0⟩] scope posc) (some (.Name x pos')) pos.line X.env = pure true)
    (hit : PI X tg iter (tI X.K g it)) (ok : BlkOk X.N X.env.scope scope own') (hlen : ∀ i ∈ tgs tgi, i < X.N.length)
    (hg : ∀ (s : Shared) (H : Hp) (C : Addr) (cl : List (Str × Addr)) (fp : List Addr), PG (X.blk s H scope (compEnvC scope cl C X.env) fp) tg (gT X.K tgi))
    (ht : ∀ (s : Shared) (H : Hp) (C : Addr) (cl : List (Str × Addr)) (fp : List Addr), PTs (X.blk s H scope (compEnvC scope cl C X.env) fp) ifs (tTs X.K g.mute cs))
    (he : ∀ (s : Shared) (H : Hp) (C : Addr) (cl : List (Str × Addr)) (fp : List Addr), PE (X.blk s H scope (compEnvC scope cl C X.env) fp) elt (tE X.K g.mute e)) (hs : ∀ x, foldedSetIterable iter X.env x = pure x) :
    PS X (.Assign [.Name x pos'] (.ListComp elt [⟨tg, iter, ifs, 0⟩] scope posc) pos) (tS X.K g ks (.asg i (.lc own tgi it cs e))) := by
  subst eo
  refine PS.imp (ps_setLc hc hN hi hyl hsw hit ok hg ht he hs) fun D σ H hl ⟨Rt, env, A, rl, p⟩ => ?_
  refine lc_ev (X := X) (Q := fun x H1 => gName i x σ H1 D.nx) hlen hl ⟨Rt, env, A, rl, PostS.seq p fun w e1 v H1 A1 B1 s1 o1 p1 => ?_⟩
  have len : i < e1.length := by rw [RE.len _ _ _ s1.re, hl]; exact lt_N hi
  obtain ⟨A', s2⟩ := s1.put0 o1 len
  exact p1 _ H1 A' (Kp.set hk) s2
theorem sns_par2 {j : Nat} {y : Str} {px py pt : Pos} {kt k2 pt2} {es : Es} (hc : X.calm = true) (hN : X.N.Nodup) (hi : X.N[i]? = some x) (hj : X.N[j]? = some y) (hij : i ≠ j)
    (hx : X.env.scope.names.lookup x = some .local) (hy : X.env.scope.names.lookup y = some .local) (hki : ks.contains i = false) (hkj : ks.contains j = false) (ha : PA X [a, b] (tEs X.K g es))
    (hw : swappedStores [.Tuple [.Name x px, .Name y py] kt pt] (.Tuple [a, b] k2 pt2) X.env = pure (some [x, y]))
    (hs : swapsWithSole [.Tuple [.Name x px, .Name y py] kt pt] (.Tuple [a, b] k2 pt2) pos.line X.env = pure false) :
    PS X (.Assign [.Tuple [.Name x px, .Name y py] kt pt] (.Tuple [a, b] k2 pt2) pos) (tS X.K g ks (.par [i, j] es)) :=
  PS.imp (ps_par hc hN hi hj hij hx hy ha hw hs) fun D σ H hl ⟨Rt, env, A, rl, p⟩ => by
    refine ⟨Rt, env, A, rl, PostS.seq p fun ws e1 vs H1 A1 B1 s1 o1 p1 => ?_⟩
    have p2 : PostS X.K g ks Rt σ H A (if [i, j].length = ws.length then .ok .nx (([i, j].zip ws).foldl (fun e p => e.set p.1 (some p.2)) e1) else .no) D := p1
    have el : e1.length = X.N.length := by rw [RE.len _ _ _ s1.re, hl]
    by_cases c : [i, j].length = ws.length
    · rw [if_pos c] at p2
      obtain ⟨A', s2⟩ := Sx.puts [i, j] ws vs σ e1 A1 B1 c (fun k hk => by
        rw [el]
        rcases List.mem_cons.mp hk with rfl | hk
        · exact lt_N hi
        · rcases List.mem_cons.mp hk with rfl | hk
          · exact lt_N hj
          · cases hk) s1 o1
      have lv := OwnL.len ws vs B1 o1
      match vs, (show 2 = vs.length from c.trans lv) with
      | [u, v], _ =>
        exact ⟨u, v, rfl, p2 _ H1 A' (Kp.sets [i, j] [u, v] σ fun k hk => by
          rcases List.mem_cons.mp hk with rfl | hk
          · exact hki
          · rcases List.mem_cons.mp hk with rfl | hk
            · exact hkj
            · cases hk) s2⟩
    · rw [if_neg c] at p2; exact p2.elim
theorem sns_par3 {j l : Nat} {y z : Str} {px py pz pt : Pos} {kt k2 pt2} {es : Es} (hc : X.calm = true) (hN : X.N.Nodup) (hi : X.N[i]? = some x) (hj : X.N[j]? = some y) (hl' : X.N[l]? = some z) (hij : i ≠ j) (hil : i ≠ l) (hjl : j ≠ l)
    (hx : X.env.scope.names.lookup x = some .local) (hy : X.env.scope.names.lookup y = some .local) (hz : X.env.scope.names.lookup z = some .local) (hki : ks.contains i = false) (hkj : ks.contains j = false) (hkl : ks.contains l = false) (ha : PA X [a, b, c] (tEs X.K g es))
    (hw : swappedStores [.Tuple [.Name x px, .Name y py, .Name z pz] kt pt] (.Tuple [a, b, c] k2 pt2) X.env = pure (some [x, y, z]))
    (hs : swapsWithSole [.Tuple [.Name x px, .Name y py, .Name z pz] kt pt] (.Tuple [a, b, c] k2 pt2) pos.line X.env = pure false) :
    PS X (.Assign [.Tuple [.Name x px, .Name y py, .Name z pz] kt pt] (.Tuple [a, b, c] k2 pt2) pos) (tS X.K g ks (.par [i, j, l] es)) :=
  PS.imp (ps_par3 hc hN hi hj hl' hij hil hjl hx hy hz ha hw hs) fun D σ H hl ⟨Rt, env, A, rl, p⟩ => by
    refine ⟨Rt, env, A, rl, PostS.seq p fun ws e1 vs H1 A1 B1 s1 o1 p1 => ?_⟩
    have p2 : PostS X.K g ks Rt σ H A (if [i, j, l].length = ws.length then .ok .nx (([i, j, l].zip ws).foldl (fun e p => e.set p.1 (some p.2)) e1) else .no) D := p1
    have el : e1.length = X.N.length := by rw [RE.len _ _ _ s1.re, hl]
    by_cases c : [i, j, l].length = ws.length
    · rw [if_pos c] at p2
      obtain ⟨A', s2⟩ := Sx.puts [i, j, l] ws vs σ e1 A1 B1 c (fun k hk => by
        rw [el]
        rcases List.mem_cons.mp hk with rfl | hk
        · exact lt_N hi
        · rcases List.mem_cons.mp hk with rfl | hk
          · exact lt_N hj
          · rcases List.mem_cons.mp hk with rfl | hk
            · exact lt_N hl'
            · cases hk) s1 o1
      have lv := OwnL.len ws vs B1 o1
      match vs, (show 3 = vs.length from c.trans lv) with
      | [u, v, w], _ =>
        exact ⟨u, v, w, rfl, p2 _ H1 A' (Kp.sets [i, j, l] [u, v, w] σ fun k hk => by
          rcases List.mem_cons.mp hk with rfl | hk
          · exact hki
          · rcases List.mem_cons.mp hk with rfl | hk
            · exact hkj
            · rcases List.mem_cons.mp hk with rfl | hk
              · exact hkl
              · cases hk) s2⟩
    · rw [if_neg c] at p2; exact p2.elim
/-- (a, b) = a tuple -/
theorem sns_asgT {tg : Expr} {is : List Nat} (he : PE X a (tE X.K g ia)) (hg : PG X tg (gT X.K (.tup is))) (hlen : ∀ i ∈ is, i < X.N.length) (hk : ∀ i ∈ ks, is.contains i = false) (hs : swapsWithSole [tg] a pos.line X.env = pure false) (hw : swappedStores [tg] a X.env = pure none)
    (h1 : (assignEach [tg] X.env).map (·.2) = [assign tg X.env]) : PS X (.Assign [tg] a pos) (tS X.K g ks (.asgT is ia)) :=
  PS.imp (ps_asg he hg hs hw h1) fun D σ H hl ⟨Rt, env, A, rl, p⟩ => by
    refine ⟨Rt, env, A, rl, PostS.seq p fun w e1 v H1 A1 B1 s1 o1 p1 => ?_⟩
    have p2 : PostS X.K g ks Rt σ H A (match tgE (.tup is) w.fz e1 with | some env2 => .ok .nx env2 | none => .no) D := p1
    cases e : tgE (.tup is) w.fz e1 with
    | none => rw [e] at p2; exact p2.elim
    | some env2 =>
      rw [e] at p2
      have s2 := s1.drop0
      have fz : Fz X.K H1 (Av A1 Rt) w.fz v := by have := s1.fz0 o1; rw [List.append_nil] at this; exact this
      have hi : ∀ i ∈ tgs (.tup is), i < e1.length := fun i hi => by rw [RE.len _ _ _ s1.re, hl]; exact hlen i hi
      refine tg_ok (.tup is) hi s2.rl0 fz e fun σ' A' sub rl' kσ => ?_
      refine p2 σ' H1 A' ⟨by rw [← RE.len _ _ _ rl'.re, tgE_len e, RE.len _ _ _ s1.re], fun j hj => kσ j fun z => ?_⟩ (s2.retg (by rw [show RtB [] Rt = Rt from funext fun b => propext (rtB_nil b)]; exact rl') sub)
      have := hk j hj
      rw [List.contains_iff_mem.mpr (show j ∈ is from z)] at this
      cases this
theorem sns_ret (he : PE X a (tE X.K g ia)) : PS X (.Return (some a) pos) (tS X.K g ks (.ret ia)) :=
  PS.imp (ps_ret he) fun D σ H hl ⟨Rt, env, A, rl, p⟩ => ⟨Rt, env, A, rl, PostS.seq p fun w e1 v H1 A1 B1 s1 o1 p1 => p1 v σ H1 A1 B1 Kp.refl s1 o1⟩
theorem sns_retn : PS X (.Return none pos) (tS X.K g ks .retn) :=
  PS.imp ps_retN fun D σ H hl ⟨Rt, env, A, rl, p⟩ => p .non σ H A [] Kp.refl rl.sx ⟨rfl, rfl⟩
theorem sns_pass : PS X (.Pass pos) (tS X.K g ks .pass) :=
  PS.imp ps_pass fun D σ H hl ⟨Rt, env, A, rl, p⟩ => p σ H A Kp.refl rl.sx
theorem sns_expr (he : PE X a (tE X.K g ia)) (hs : swapsWith a none pos.line X.env = pure false) : PS X (.Expr a pos) (tS X.K g ks (.expr ia)) :=
  PS.imp (ps_expr he hs) fun D σ H hl ⟨Rt, env, A, rl, p⟩ => ⟨Rt, env, A, rl, PostS.seq p fun w e1 v H1 A1 B1 s1 o1 p1 => p1 σ H1 A1 Kp.refl s1.drop0⟩
theorem sns_if {sa sb : List Stmt} (hc : PT X c (tT X.K g ja)) (ha : PSs X sa (tSs X.K g ks s1)) (hb : PSs X sb (tSs X.K g ks s2)) : PS X (.If c sa sb pos) (tS X.K g ks (.ife ja s1 s2)) :=
  PS.imp (ps_if hc ha hb) fun D σ H hl ⟨Rt, env, A, rl, p⟩ => by
    refine ⟨Rt, env, A, rl, PostS.seq p fun k e1 v H1 A1 B1 sx o1 p1 => ?_⟩
    obtain ⟨rfl, rfl⟩ := o1
    cases v with
    | true => rw [if_pos rfl]; exact ⟨Rt, e1, A1, sx.rl0, PostS.shift Kp.refl sx p1⟩
    | false => rw [if_neg (by decide)]; exact ⟨Rt, e1, A1, sx.rl0, PostS.shift Kp.refl sx p1⟩
theorem sns_retv (hN : X.N[i]? = some x) (hv : Vis X.env.scope x) (hd : (x == ("__debug__" : Str)) = false) (hcd : (x == ("__classdict__" : Str)) = false) : PS X (.Return (some (.Name x pos')) pos) (tS X.K g ks (.retv i)) :=
  PS.imp (ps_ret (pe_var hN hv hd hcd)) fun D σ H hl ⟨Rt, env, A, rl, p⟩ => by
    have p' : PostS X.K g ks Rt σ H A (match env[i]? with | some (some w) => .ok (.rt w) (env.set i none) | _ => .no) D := p
    cases e : env[i]? with
    | none => rw [e] at p'; exact p'.elim
    | some o =>
      cases o with
      | none => rw [e] at p'; exact p'.elim
      | some w =>
        rw [e] at p'
        have hi : i < env.length := (List.getElem?_eq_some_iff.mp e).1
        obtain ⟨A1, B, A2, eA, _, hw, hu⟩ := RE.slot env σ A i rl.re hi
        obtain ⟨v, ev, ow⟩ := hw w e
        subst eA
        have eqm : ∀ b, b ∈ (A1 ++ A2) ++ B ↔ b ∈ A1 ++ (B ++ A2) := fun b => by
          simp only [List.mem_append]
          constructor
          · rintro ((z | z) | z)
            · exact .inl z
            · exact .inr (.inr z)
            · exact .inr (.inl z)
          · rintro (z | z | z)
            · exact .inl (.inl z)
            · exact .inr z
            · exact .inl (.inr z)
        have suba : ∀ b, Av ((A1 ++ A2) ++ B) Rt b → Av (A1 ++ (B ++ A2)) Rt b := fun b z => z.imp (eqm b).mp id
        have re := (hu H (Av ((A1 ++ A2) ++ B) Rt) (fun _ _ q _ => q) (fun _ _ q => q) (fun b z => .inl (suba b z))).1 (some v)
        rw [set_same ev] at re
        have nd : ((A1 ++ A2) ++ B).Nodup := perm_nodup (by
          rw [List.perm_iff_count]
          intro a
          simp only [List.count_append]
          omega) rl.nd
        refine ⟨v, ev, p' v σ H (A1 ++ A2) B Kp.refl ⟨Go.refl.sub fun b hb => (eqm b).mp hb, nd, fun b hb => rl.rt b ((eqm b).mp hb), rl.th, fun b hb => ?_, re⟩ (Own.mono w v B (fun _ _ q _ => q) (fun _ _ q => q) (fun b z => .inl (suba b z)) ow)⟩
        obtain ⟨o, q, _⟩ := Own.there w v B ow b hb
        rw [q]; exact fun z => by cases z
end
end Ev
set_option maxHeartbeats 4000000
/-! Ev10: append, item stores, for. -/
namespace Ev
open PySem L2
section
variable {K : PySem.W.Frag} {Rt : Addr → Prop} {H H1 H2 : Hp} {σ σ' : St} {env env1 env2 : Env} {A A1 A2 B B' B1 B2 : List Addr} {w : W} {ws ws' : List W} {v y : V} {vs xs xs' : List V} {av : Addr → Prop} {i : Nat}
/-- an owned list in a slot is rewritten; B: what the new items own -/
theorem Sx.mut (s : Sx K Rt σ H A H1 env A1 B) (hi : env[i]? = some (some (.lst ws))) : ∃ a xs D, σ[i]? = some (some (.ref a)) ∧ H1 a = some (.lst xs) ∧ OwnL K H1 (Av (A1 ++ B) Rt) ws xs D ∧
    ∀ ws' xs' D', OwnL K H1 (Av (A1 ++ B) Rt) ws' xs' D' → (∀ b, D'.count b ≤ (D ++ B).count b) → ∃ A', Sx K Rt σ H A (upd H1 a (.lst xs')) (env.set i (some (.lst ws'))) A' [] := by
  obtain ⟨C1, Bo, C2, eA, _, hw, hu⟩ := RE.slot env σ A1 i s.re (List.getElem?_eq_some_iff.mp hi).1
  obtain ⟨v, ev, a, xs, D, e1, e2, ha, hl⟩ := hw _ hi
  subst e1 e2 eA
  refine ⟨a, xs, D, ev, ha, hl, fun ws' xs' D' ow cn => ?_⟩
  have cnt : ∀ b, ((C1 ++ ((a :: D') ++ C2)) ++ []).count b ≤ ((C1 ++ ((a :: D) ++ C2)) ++ B).count b := fun b => by
    have := cn b
    simp only [List.count_append, List.count_cons, List.count_nil] at this ⊢
    omega
  have nd : ((C1 ++ ((a :: D') ++ C2)) ++ []).Nodup := List.nodup_iff_count.mpr fun b => Nat.le_trans (cnt b) (List.nodup_iff_count.mp s.nd b)
  have sub : ∀ b ∈ (C1 ++ ((a :: D') ++ C2)) ++ [], b ∈ (C1 ++ ((a :: D) ++ C2)) ++ B := fun b hb => List.count_pos_iff.mp (Nat.lt_of_lt_of_le (List.count_pos_iff.mpr hb) (cnt b))
  have suba : ∀ b, Av ((C1 ++ ((a :: D') ++ C2)) ++ []) Rt b → Av ((C1 ++ ((a :: D) ++ C2)) ++ B) Rt b := fun b z => z.imp (sub b) id
  have ain : a ∈ (C1 ++ ((a :: D) ++ C2)) ++ B := List.mem_append_left _ (List.mem_append_right _ (List.mem_append_left _ List.mem_cons_self))
  have ava : Av ((C1 ++ ((a :: D) ++ C2)) ++ B) Rt a := .inl ain
  have lD : ∀ xs', ¬ Rd H1 a (.tup xs') := fun xs' z => by rcases z with z | ⟨o, z⟩ <;> (rw [ha] at z; cases z)
  have tup' : ∀ b xs, Rd H1 b (.tup xs) → Rd (upd H1 a (.lst xs')) b (.tup xs) := fun b xs q => by
    have ne : b ≠ a := fun z => by subst z; exact lD xs q
    exact Rd.mono q fun u q => by rw [upd_ne ne]; exact q
  have nd1 : ∀ b, b ∈ C1 ++ C2 ∨ b ∈ D' → b ≠ a := fun b hb z => by
    subst z
    have h1 := List.nodup_iff_count.mp nd b
    have h2 : 0 < (C1 ++ C2).count b ∨ 0 < D'.count b := hb.imp List.count_pos_iff.mpr List.count_pos_iff.mpr
    simp only [List.count_append, List.count_cons, List.count_nil, beq_self_eq_true, if_true] at h1 h2
    omega
  refine ⟨C1 ++ ((a :: D') ++ C2), ⟨fun b o q n => ?_, fun b xs q => tup' b xs (s.go.tups b xs q), fun b hb => s.go.new b (sub b hb)⟩, nd, fun b hb => s.rt b (sub b hb), fun b z => ?_, fun b hb => (by cases hb), ?_⟩
  · have q1 := s.go.keep b o q n
    have ne : b ≠ a := fun z => by
      subst z
      rcases s.go.new b ain with z | z
      · exact n z
      · rw [z] at q; cases q
    rw [upd_ne ne]; exact q1
  · by_cases e : b = a
    · subst e; rw [upd_same]; exact fun q => by cases q
    · rw [upd_ne e]; exact s.th b z
  · have := (hu (upd H1 a (.lst xs')) (Av ((C1 ++ ((a :: D') ++ C2)) ++ []) Rt) (fun b o q c => by
      have ne : b ≠ a := fun z => by
        rcases c with c | c
        · exact nd1 b (.inl c) z
        · exact c (by rw [z]; exact ava)
      rw [upd_ne ne]; exact q) tup' (fun b z => .inl (suba b z))).2 (.lst ws') (.ref a) (a :: D') ⟨a, xs', D', rfl, rfl, upd_same, OwnL.mono ws' xs' D' (fun b o q c => by
        have ne : b ≠ a := fun z => by
          rcases c with c | c
          · exact nd1 b (.inr c) z
          · exact c (by rw [z]; exact ava)
        rw [upd_ne ne]; exact q) tup' (fun b z => .inl (suba b z)) ow⟩
    rw [set_same ev] at this
    exact this
theorem OwnL.setN : ∀ (ws : List W) (xs : List V) (D : List Addr) (n : Nat), n < ws.length → OwnL K H1 av ws xs D → Own K H1 av w y B → ∃ D', OwnL K H1 av (ws.set n w) (xs.set n y) D' ∧ ∀ b, D'.count b ≤ (D ++ B).count b
  | [], _, _, _, h, _, _ => absurd h (Nat.not_lt_zero _)
  | u :: ws, xs, D, 0, _, h, ow => by
    obtain ⟨v, r, D1, D2, rfl, rfl, h1, h2⟩ := h
    refine ⟨B ++ D2, ⟨y, r, B, D2, rfl, rfl, ow, h2⟩, fun b => ?_⟩
    simp only [List.count_append]
    omega
  | u :: ws, xs, D, n + 1, hn, h, ow => by
    obtain ⟨v, r, D1, D2, rfl, rfl, h1, h2⟩ := h
    obtain ⟨D', q, c⟩ := OwnL.setN ws r D2 n (by simpa using hn) h2 ow
    refine ⟨D1 ++ D', ⟨v, r.set n y, D1, D', rfl, rfl, h1, q⟩, fun b => ?_⟩
    have := c b
    simp only [List.count_append] at this ⊢
    omega
end
section
variable {X : Cx} {g : Cfg} {ks : List Nat} {pos pos' : Pos} {a b c : Expr} {ia ib ic : E} {i : Nat} {x : Str} {st : Stmt} {rest : List Stmt} {s : S} {ss : Ss}
theorem lst_slot {K : PySem.W.Frag} {Rt : Addr → Prop} {H : Hp} {σ : St} {env : Env} {A : List Addr} {ws : List W} (re : RE K H (Av A Rt) env σ A) (e : env[i]? = some (some (.lst ws))) : ∃ a xs, σ[i]? = some (some (.ref a)) ∧ H a = some (.lst xs) := by
  obtain ⟨_, _, _, _, _, hw, _⟩ := RE.slot env σ A i re (List.getElem?_eq_some_iff.mp e).1
  obtain ⟨v, ev, a, xs, D, e1, e2, ha, hl⟩ := hw _ e
  subst e1
  exact ⟨a, xs, ev, ha⟩
theorem sns_app {apos cpos : Pos} (hN : X.N[i]? = some x) (hv : Vis X.env.scope x) (hd : (x == ("__debug__" : Str)) = false) (hcd : (x == ("__classdict__" : Str)) = false) (he : PE X a (tE X.K g ia))
    (hbase : attributeBase (.Name x pos') "append" X.env (eval (.Name x pos') X.env) = eval (.Name x pos') X.env)
    (hfew : ((backTo cpos (starEach [a] X.env)).all (fun x => !x.1) && (backToKw cpos (keywordEach [] X.env)).all (fun x => x.1.isSome)
      && decide ([a].length + ([] : List Keyword).length + (if ([] : List Keyword).isEmpty then 0 else 1) < 30)) = true)
    (hline : (apos.endLine == cpos.line) = true) (hs : starEach [a] X.env = [(false, eval a X.env)])
    (hsw : swapsWith (.Call (.Attribute (.Name x pos') "append" apos) [a] [] cpos) none pos.line X.env = pure false) : PS X (.Expr (.Call (.Attribute (.Name x pos') "append" apos) [a] [] cpos) pos) (tS X.K g ks (.app i ia)) :=
  PS.imp (ps_expr (pe_bm PySem.F.plainAttrs_list PySem.F.slot_list_append PySem.F.type_list_append mt_append (pe_var hN hv hd hcd) (pa_cons he pa_nil hs) hbase hfew hline hs rfl) hsw) fun D σ H hl ⟨Rt, env, A, rl, p⟩ => by
    have p0 : PostS X.K g ks Rt σ H A (match env[i]? with
      | some (some (.lst _)) => (evE g.G g.C ia env).bind fun w env1 => (match env1[i]? with
        | some (some (.lst ws)) => if decide (ws.length < 16777216) = true then .ok .nx (env1.set i (some (.lst (ws ++ [w])))) else .no
        | _ => .no)
      | _ => .no) D := p
    cases e : env[i]? with
    | none => rw [e] at p0; exact p0.elim
    | some o =>
    cases o with
    | none => rw [e] at p0; exact p0.elim
    | some w0 =>
    cases w0 with
    | val t => rw [e] at p0; exact p0.elim
    | set t => rw [e] at p0; exact p0.elim
    | lst ws0 =>
      rw [e] at p0
      obtain ⟨q, xs0, eq, hq⟩ := lst_slot rl.re e
      refine ⟨.ref q, eq, .inl ⟨rfl, xs0, SqL.of hq⟩, Rt, env, A, rl, PostS.seq p0 fun w e1 v H1 A1 B1 s1 o1 p1 => ?_⟩
      cases e' : e1[i]? with
      | none => rw [e'] at p1; exact p1.elim
      | some o =>
      cases o with
      | none => rw [e'] at p1; exact p1.elim
      | some w0 =>
      cases w0 with
      | val t => rw [e'] at p1; exact p1.elim
      | set t => rw [e'] at p1; exact p1.elim
      | lst ws =>
        rw [e'] at p1
        have p2 : PostS X.K g ks Rt σ H A (if decide (ws.length < 16777216) = true then .ok .nx (e1.set i (some (.lst (ws ++ [w])))) else .no) D := p1
        by_cases c : decide (ws.length < 16777216) = true
        · rw [if_pos c] at p2
          obtain ⟨a', xs, D', ea, hx, ow, mk⟩ := s1.mut e'
          rw [eq] at ea
          cases ea
          obtain ⟨A', s2⟩ := mk (ws ++ [w]) (xs ++ [v]) (D' ++ B1) (OwnL.snoc ws xs D' ow o1) fun b => Nat.le_refl _
          exact ⟨q, xs, v, rfl, rfl, hx, by rw [sizeLine_eq, ← OwnL.len ws xs D' ow]; exact of_decide_eq_true c, p2 σ _ A' Kp.refl s2⟩
        · rw [if_neg c] at p2; exact p2.elim
theorem sns_setx {tpos : Pos} (hN : X.N[i]? = some x) (hv : Vis X.env.scope x) (hd : (x == ("__debug__" : Str)) = false) (hcd : (x == ("__classdict__" : Str)) = false) (hb : PE X b (tE X.K g ib)) (he : PE X a (tE X.K g ia))
    (hsb : ∀ v, assign (.Subscript (.Name x pos') b tpos) X.env v = (do
      let ov ← holding [v] (eval (.Name x pos') X.env)
      let iv ← holding [v, ov] (eval b X.env)
      standAt tpos
      holding [v, ov, iv] (setItem ov iv v)
      release [v, ov, iv] []))
    (hs : swapsWithSole [.Subscript (.Name x pos') b tpos] a pos.line X.env = pure false) (hw : swappedStores [.Subscript (.Name x pos') b tpos] a X.env = pure none)
    (h1 : (assignEach [.Subscript (.Name x pos') b tpos] X.env).map (·.2) = [assign (.Subscript (.Name x pos') b tpos) X.env]) : PS X (.Assign [.Subscript (.Name x pos') b tpos] a pos) (tS X.K g ks (.setx i ib ia)) :=
  PS.imp (ps_asg he (pg_sub (pe_var hN hv hd hcd) hb set_list hsb) hs hw h1) fun D σ H hl ⟨Rt, env, A, rl, p⟩ => by
    refine ⟨Rt, env, A, rl, PostS.seq p fun w e1 v H1 A1 B1 s1 o1 p0 => ?_⟩
    cases e : e1[i]? with
    | none => rw [e] at p0; exact p0.elim
    | some o =>
    cases o with
    | none => rw [e] at p0; exact p0.elim
    | some w0 =>
    cases w0 with
    | val t => rw [e] at p0; exact p0.elim
    | set t => rw [e] at p0; exact p0.elim
    | lst ws0 =>
      rw [e] at p0
      have p1 : PostS X.K g ks Rt σ H A ((evE g.G g.C ib e1).bind fun y env2 => (match env2[i]? with
        | some (some (.lst ws)) => (match y.fz with
          | .int j => (match L2.ixN ws.length j with
            | some n => .ok .nx (env2.set i (some (.lst (ws.set n w))))
            | none => .no)
          | _ => .no)
        | _ => .no)) D := p0
      obtain ⟨q, xs0, eq, hq⟩ := lst_slot (Rt := RtB B1 Rt) (A := A1) s1.rl.re e
      refine ⟨.ref q, eq, RtB B1 Rt, e1, A1, s1.rl, PostS.seq2 s1 p1 fun y e2 v2 H2 A2 B2 s2 o2 p2 => ?_⟩
      have s3 := s1.next s2
      have w1 := s1.own s2 o1
      have w2 := Sx.own2 (B1 := B1) o2
      cases e' : e2[i]? with
      | none => rw [e'] at p2; exact p2.elim
      | some o =>
      cases o with
      | none => rw [e'] at p2; exact p2.elim
      | some w0 =>
      cases w0 with
      | val t => rw [e'] at p2; exact p2.elim
      | set t => rw [e'] at p2; exact p2.elim
      | lst ws =>
        rw [e'] at p2
        cases ey : y.fz with
        | int j =>
          simp only [ey] at p2
          cases en : L2.ixN ws.length j with
          | none => rw [en] at p2; exact p2.elim
          | some n =>
            rw [en] at p2
            have eB := fzo_int ey o2
            subst eB
            rw [List.append_nil] at s3 w1
            obtain ⟨a', xs, D', ea, hx, ow, mk⟩ := s3.mut e'
            rw [eq] at ea
            cases ea
            have hlen := OwnL.len ws xs D' ow
            have hn : n < ws.length := (ixN_seq en).2.1
            obtain ⟨D2, q1, q2⟩ := OwnL.setN ws xs D' n hn ow w1
            obtain ⟨A', s4⟩ := mk _ _ D2 q1 q2
            exact ⟨q, xs, j, n, rfl, fz_int ey o2, hx, by rw [← hlen]; exact en, p2 σ _ A' Kp.refl s4⟩
        | _ => simp only [ey] at p2; exact p2.elim
/-! ### for -/
theorem sns_for {tg iter : Expr} {body : List Stmt} {tgi : Tg} {it : Ev.It} {sb : Ss} (hp : PassesOwn (model X.prog X.w) X.A X.env X.xe) (hc : X.calm = true) (hi : PI X tg iter (tI X.K g it)) (hg : PG X tg (gT X.K tgi)) (hb : PSs X body (tSs X.K g ks sb))
    (hlen : ∀ i ∈ tgs tgi, i < X.N.length) (hk : ∀ j ∈ ks, (tgs tgi).contains j = false) (hs : ∀ x, foldedSetIterable iter X.env x = pure x) : PS X (.For tg iter body [] pos) (tS X.K g ks (.for_ tgi it sb)) :=
  PS.imp (ps_for hp hc hi hg hb hs) fun D σ H hl ⟨Rt, env, A, rl, p⟩ => by
    refine ⟨Rt, env, A, rl, PostS.seq p fun ts e1 J H1 A1 B1 s1 o1 p1 => ?_⟩
    obtain ⟨rfl, P, jt, pP⟩ := o1
    have kd : ∀ j ∈ ks, j ∉ tgs tgi := fun j hj z => by
      have := hk j hj
      rw [List.contains_iff_mem.mpr z] at this
      cases this
    let Wi : Nat → St → Hp → Prop := fun i σ' H' => ∃ envi Ai, Kp ks σ σ' ∧ Sx X.K Rt σ' H A H' envi Ai [] ∧ P H' (Av (Ai ++ []) Rt) ∧ σ'.length = X.N.length ∧ PostS X.K g ks Rt σ H A (forL tgi (evSs g.G g.C sb) (ts.drop i) envi) D
    refine ⟨fun i m σ' H' => m = ts.length - i ∧ i ≤ ts.length ∧ Wi i σ' H', ⟨ts.length, by simp, Nat.zero_le _, e1, A1, Kp.refl, s1, pP, hl, by simpa using p1⟩, ?_⟩
    rintro i m σ' H' ⟨rfl, hile, envi, Ai, kp, sx, pH, hl', po⟩
    by_cases hlt : i < ts.length
    · have et : ts.drop i = ts[i] :: ts.drop (i + 1) := List.drop_eq_getElem_cons hlt
      have gi : ts[i]? = some ts[i] := List.getElem?_eq_getElem hlt
      rw [et] at po
      have po1 : PostS X.K g ks Rt σ H A (match tgE tgi ts[i] envi with
        | none => .no
        | some env1 => (evSs g.G g.C sb env1).bind fun f env2 => match f with
          | .nx => forL tgi (evSs g.G g.C sb) (ts.drop (i + 1)) env2
          | .ct => forL tgi (evSs g.G g.C sb) (ts.drop (i + 1)) env2
          | .bk => .ok .nx env2
          | .rt w => .ok (.rt w) env2) D := po
      cases etg : tgE tgi ts[i] envi with
      | none => rw [etg] at po1; exact po1.elim
      | some env1 =>
      rw [etg] at po1
      have po2 : PostS X.K g ks Rt σ H A ((evSs g.G g.C sb env1).bind fun f env2 => match f with
          | .nx => forL tgi (evSs g.G g.C sb) (ts.drop (i + 1)) env2
          | .ct => forL tgi (evSs g.G g.C sb) (ts.drop (i + 1)) env2
          | .bk => .ok .nx env2
          | .rt w => .ok (.rt w) env2) D := po1
      refine .inr ⟨jt.go H' _ i _ pH gi, Wi (i + 1), fun σ2 H2 w => ⟨ts.length - (i + 1), by omega, rfl, hlt, w⟩, fun x Hy y => ?_⟩
      obtain ⟨ext, fx⟩ := jt.yld H' _ i _ x Hy pH gi y
      have sx1 := sx.ext ext
      have pH1 : P Hy (Av (Ai ++ []) Rt) := jt.mono _ _ _ _ pH (fun b o q _ => ext b o q) (fun b xs q => Rd.mono q fun o q => ext b o q) (fun b z => .inl z)
      have elen : envi.length = X.N.length := by rw [RE.len _ _ _ sx.re, hl']
      have fx1 : Fz X.K Hy (Av Ai Rt) ts[i] x := by rw [List.append_nil] at fx; exact fx
      refine tg_ok tgi (fun j hj => by rw [elen]; exact hlen j hj) sx1.rl0 fx1 etg fun σ2 A2 sub rl2 kσ => ?_
      have l2 : σ2.length = X.N.length := by rw [← RE.len _ _ _ rl2.re, tgE_len etg, elen]
      have kp2 : Kp ks σ σ2 := kp.trans ⟨l2.trans hl'.symm, fun j hj => kσ j (kd j hj)⟩
      have sxT : Sx X.K Rt σ2 H A Hy env1 A2 [] := sx1.retg (by rw [show RtB [] Rt = Rt from funext fun b => propext (rtB_nil b)]; exact rl2) sub
      have pT : P Hy (Av (A2 ++ []) Rt) := jt.mono _ _ _ _ pH1 (fun _ _ q _ => q) (fun _ _ q => q) (fun b z => .inl (by
        rw [List.append_nil] at z ⊢
        exact z.imp (sub b) id))
      refine ⟨Rt, env1, A2, rl2, ?_⟩
      -- what the body reaches
      have again : ∀ env2 σ3 H3 A3, Kp ks σ2 σ3 → Sx X.K Rt σ3 Hy A2 H3 env2 A3 [] → PostS X.K g ks Rt σ H A (forL tgi (evSs g.G g.C sb) (ts.drop (i + 1)) env2) D → Wi (i + 1) σ3 H3 := fun env2 σ3 H3 A3 k3 s3 po3 => by
        have s3' : Sx X.K (RtB [] Rt) σ3 Hy A2 H3 env2 A3 [] := s3.rt0 rtB_nil
        have p3 := sxT.nextP jt s3' pT
        exact ⟨env2, A3, kp2.trans k3, sxT.next0 s3, p3, k3.1.trans l2, po3⟩
      cases eb : evSs g.G g.C sb env1 with
      | no => rw [eb] at po2; exact po2.elim
      | exc c t env2 =>
        rw [eb] at po2
        exact fun cls d σ3 H3 A3 k3 s3 px => po2 cls d σ3 H3 A3 (kp2.trans k3) (sxT.next0 s3) px
      | ok f env2 =>
        rw [eb] at po2
        cases f with
        | nx => exact fun σ3 H3 A3 k3 s3 => again env2 σ3 H3 A3 k3 s3 po2
        | ct => exact fun σ3 H3 A3 k3 s3 => again env2 σ3 H3 A3 k3 s3 po2
        | bk => exact fun σ3 H3 A3 k3 s3 => po2 σ3 H3 A3 (kp2.trans k3) (sxT.next0 s3)
        | rt w => exact fun v σ3 H3 A3 B3 k3 s3 ow => po2 v σ3 H3 A3 B3 (kp2.trans k3) (sxT.next0 s3) ow
    · have ei : i = ts.length := by omega
      subst ei
      rw [List.drop_length] at po
      exact .inl ⟨jt.stop H' _ _ pH (Nat.le_refl _), po σ' H' Ai kp sx⟩
end
end Ev
set_option maxHeartbeats 4000000
/-! Ev11: calls of defs; what a def promises. -/
namespace Ev
open PySem L2
/-- what a def promises: io the parameters that are handed out again, n how many parameters -/
def spC (K : PySem.W.Frag) (xr : XR) (C : Calls) (f : Nat) (io : List Nat) (n : Nat) : Sp := fun vs H Q E => vs.length = n ∧ ∃ Rt ws A, Rl K Rt H (vs.map some) (ws.map some) A ∧ (match C f ws with
  | .ok w outs => ∀ v H' A' B, Sx K Rt (io.map fun j => vs[j]?) H A H' outs A' B → Own K H' (Av (A' ++ B) Rt) w v B → Q v H'
  | .exc c t outs => ∀ cls d H' A', Sx K Rt (io.map fun j => vs[j]?) H A H' outs A' [] → xr c t H' (Av (A' ++ []) Rt) cls d → E cls d H'
  | .no => False)
/-! ### arguments -/
def slots : As → List Nat
  | .nil => []
  | .cons _ as => slots as
  | .io i as => i :: slots as
def ioPos : Nat → As → List Nat
  | _, .nil => []
  | k, .cons _ as => ioPos (k + 1) as
  | k, .io _ as => k :: ioPos (k + 1) as
def VsAt (σ : St) : As → List V → Prop
  | .nil, vs => vs = []
  | .cons _ as, vs => ∃ v r, vs = v :: r ∧ VsAt σ as r
  | .io i as, vs => ∃ v r, vs = v :: r ∧ σ[i]? = some (some v) ∧ VsAt σ as r
section
variable (K : PySem.W.Frag) (g : Cfg)
def POA (σ : St) (as : As) : List W × List Nat → List V → Hp → (Addr → Prop) → List Addr → Prop := fun a vs H av B => OwnL K H av a.1 vs B ∧ a.2 = slots as ∧ VsAt σ as vs
def tA (as : As) : TA := fun σ H Q => ∃ Rt env A, Rl K Rt H σ env A ∧ Post K g (POA K σ as) Rt σ H A (evA g.G g.C as env) Q
end
/-- the slots hold what the list says -/
def Same (σ : St) : List Nat → St → Prop
  | [], o => o = []
  | i :: is, o => ∃ x r, o = x :: r ∧ σ[i]? = some x ∧ Same σ is r
theorem same_of {σ : St} {post : List V} : ∀ (as : As) (vs pre : List V), VsAt σ as vs → Same σ (slots as) ((ioPos pre.length as).map fun j => (pre ++ (vs ++ post))[j]?)
  | .nil, vs, pre, h => rfl
  | .cons _ as, vs, pre, h => by
    obtain ⟨v, r, rfl, h⟩ := h
    have := same_of (post := post) as r (pre ++ [v]) h
    rw [List.length_append, List.length_singleton, List.append_assoc] at this
    exact this
  | .io i as, vs, pre, h => by
    obtain ⟨v, r, rfl, hi, h⟩ := h
    have := same_of (post := post) as r (pre ++ [v]) h
    rw [List.length_append, List.length_singleton, List.append_assoc] at this
    refine ⟨some v, _, ?_, hi, this⟩
    show (pre ++ (v :: r ++ post))[pre.length]? :: _ = _
    rw [List.getElem?_append_right (Nat.le_refl _), Nat.sub_self]
    rfl
section
variable {K : PySem.W.Frag} {g : Cfg} {Rt : Addr → Prop} {H H1 H2 : Hp} {σ σo : St} {env env1 env2 outs : Env} {A A1 A2 B B1 B2 : List Addr} {w : W} {ws : List W} {v : V} {vs : List V} {av : Addr → Prop} {i : Nat}
theorem OwnL.re : ∀ (ws : List W) (vs : List V) (B : List Addr), OwnL K H av ws vs B → RE K H av (ws.map some) (vs.map some) B
  | [], vs, B, h => by
    obtain ⟨rfl, rfl⟩ := h
    exact ⟨rfl, rfl⟩
  | w :: ws, vs, B, h => by
    obtain ⟨v, r, B1, B2, rfl, rfl, h1, h2⟩ := h
    exact ⟨v, r.map some, B1, B2, rfl, rfl, h1, OwnL.re ws r B2 h2⟩
theorem OwnL.vals {ts : List T} {us : List V} : ∀ (ws : List W) (vs : List V) (B : List Addr), OwnL K H av ws vs B → FzL K H av ts us → OwnL K H av (ws ++ ts.map W.val) (vs ++ us) B
  | [], vs, B, h, f => by
    obtain ⟨rfl, rfl⟩ := h
    exact FzL.own ts us f
  | w :: ws, vs, B, h, f => by
    obtain ⟨v, r, B1, B2, rfl, rfl, h1, h2⟩ := h
    exact ⟨v, r ++ us, B1, B2, rfl, rfl, h1, OwnL.vals ws r B2 h2 f⟩
theorem RE.nones (k : Nat) : ∀ (env : Env) (σ : St) (A : List Addr), RE K H av env σ A → RE K H av (env ++ List.replicate k none) (σ ++ List.replicate k none) A
  | [], σ, A, h => by
    obtain ⟨rfl, rfl⟩ := h
    induction k with
    | zero => exact ⟨rfl, rfl⟩
    | succ k ih => exact ⟨none, _, rfl, ih⟩
  | none :: env, σ, A, h => by
    obtain ⟨o, r, rfl, h⟩ := h
    exact ⟨o, _, rfl, RE.nones k env r A h⟩
  | some w :: env, σ, A, h => by
    obtain ⟨v, r, B, D, rfl, rfl, h1, h2⟩ := h
    exact ⟨v, _, B, D, rfl, rfl, h1, RE.nones k env r D h2⟩
/-- some slots alone -/
theorem RE.pick : ∀ (io : List Nat) (env : Env) (A : List Addr), io.Nodup → (∀ j ∈ io, j < env.length) → RE K H av env σ A → ∃ A', (∀ b, A'.count b ≤ A.count b) ∧ RE K H av (outE env io) (io.map fun j => (σ[j]?).getD none) A'
  | [], env, A, _, _, h => ⟨[], fun b => by simp, rfl, rfl⟩
  | j :: io, env, A, nd, hl, h => by
    obtain ⟨nj, nd⟩ := List.nodup_cons.mp nd
    obtain ⟨A1, B, A2, eA, hn, hw, hu⟩ := RE.slot env σ A j h (hl j List.mem_cons_self)
    have jl : j < σ.length := by rw [← RE.len _ _ _ h]; exact hl j List.mem_cons_self
    have es : σ[j]? = some ((σ[j]?).getD none) := by rw [List.getElem?_eq_getElem jl]; rfl
    have h2 := (hu H av (fun _ _ q _ => q) (fun _ _ q => q) fun b z => .inl z).1 ((σ[j]?).getD none)
    rw [set_same es] at h2
    obtain ⟨A', c, re⟩ := RE.pick io (env.set j none) (A1 ++ A2) nd (fun k hk => by rw [List.length_set]; exact hl k (List.mem_cons_of_mem _ hk)) h2
    have eo : outE (env.set j none) io = outE env io := List.map_congr_left fun k hk => by
      rw [List.getElem?_set_ne fun z : j = k => nj (by rw [z]; exact hk)]
    rw [eo] at re
    have jl2 := hl j List.mem_cons_self
    cases e : env[j] with
    | none =>
      have eg : env[j]? = some none := by rw [List.getElem?_eq_getElem jl2, e]
      refine ⟨A', fun b => ?_, ?_⟩
      · have := c b
        rw [eA]
        simp only [List.count_append] at this ⊢
        omega
      · show RE K H av ((env[j]?).getD none :: outE env io) _ A'
        rw [eg]
        exact ⟨_, _, rfl, re⟩
    | some w =>
      have eg : env[j]? = some (some w) := by rw [List.getElem?_eq_getElem jl2, e]
      obtain ⟨v, ev, ow⟩ := hw w eg
      refine ⟨B ++ A', fun b => ?_, ?_⟩
      · have := c b
        rw [eA]
        simp only [List.count_append] at this ⊢
        omega
      · show RE K H av ((env[j]?).getD none :: outE env io) ((σ[j]?).getD none :: _) (B ++ A')
        rw [eg, ev]
        exact ⟨v, _, B, A', rfl, rfl, ow, re⟩
/-- the state behind a call, by the caller -/
theorem Sx.back (s1 : Sx K Rt σ H A H1 env1 A1 B1) (s2 : Sx K (RtB A1 Rt) σo H1 B1 H2 outs A2 B2) : Sx K Rt σ H A H2 env1 A1 (A2 ++ B2) ∧ RE K H2 (Av (A1 ++ (A2 ++ B2)) Rt) outs σo A2 := by
  have nB : ∀ b o, H b = some o → b ∉ A → b ∉ B1 := fun b o q n z => (s1.go.new b (List.mem_append_right _ z)).elim n fun e => by rw [e] at q; cases q
  have nA1 : ∀ b ∈ A1, b ∉ B1 := fun b hb z => (List.nodup_append.mp s1.nd).2.2 b hb b z rfl
  have old : ∀ b, H1 b = none → b ∈ A ∨ H b = none := fun b z => by
    by_cases ha : b ∈ A
    · exact .inl ha
    · cases q : H b with
      | none => exact .inr rfl
      | some o => rw [s1.go.keep b o q ha] at z; cases z
  have hav : ∀ b, Av (A1 ++ (A2 ++ B2)) Rt b → Av (A1 ++ B1) Rt b ∨ H1 b = none := fun b z => by
    rcases z with z | z
    · rcases List.mem_append.mp z with z | z
      · exact .inl (.inl (List.mem_append_left _ z))
      · exact (s2.go.new b z).imp (fun z => .inl (List.mem_append_right _ z)) id
    · exact .inl (.inr z)
  refine ⟨⟨⟨fun b o q n => s2.go.keep b o (s1.go.keep b o q n) (nB b o q n), fun b xs q => s2.go.tups b xs (s1.go.tups b xs q), fun b hb => ?_⟩, ?_, fun b hb z => ?_, fun b z => s2.th b (.inr z), fun b hb => ?_, ?_⟩, ?_⟩
  · rcases List.mem_append.mp hb with hb | hb
    · exact s1.go.new b (List.mem_append_left _ hb)
    · rcases s2.go.new b hb with z | z
      · exact s1.go.new b (List.mem_append_right _ z)
      · exact old b z
  · exact List.nodup_append.mpr ⟨(List.nodup_append.mp s1.nd).1, s2.nd, fun a ha b hb e => by
      subst e
      exact s2.rt a hb (.inl ha)⟩
  · rcases List.mem_append.mp hb with hb | hb
    · exact s1.rt b (List.mem_append_left _ hb) z
    · exact s2.rt b hb (.inr z)
  · rcases List.mem_append.mp hb with hb | hb
    · obtain ⟨o, q, _⟩ := RE.there _ _ _ s2.re b hb
      rw [q]; exact fun z => by cases z
    · exact s2.bth b hb
  · exact RE.mono env1 σ A1 (fun b o q c => s2.go.keep b o q fun z => by
      rcases c with c | c
      · exact nA1 b c z
      · exact c (.inl (List.mem_append_right _ z))) s2.go.tups hav s1.re
  · exact RE.mono outs σo A2 (fun _ _ q _ => q) (fun _ _ q => q) (fun b z => .inl (by
      rcases z with z | z
      · rcases List.mem_append.mp z with z | z
        · exact .inr (.inl z)
        · exact .inl z
      · exact .inr (.inr z))) s2.re
/-- a slot is emptied -/
theorem Sx.clear (s : Sx K Rt σ H A H1 env A1 B) (hi : i < env.length) : ∃ A', Sx K Rt σ H A H1 (env.set i none) A' B ∧ ∀ b, Av (A' ++ B) Rt b → Av (A1 ++ B) Rt b := by
  obtain ⟨C1, Bo, C2, eA, hn, hw, hu⟩ := RE.slot env σ A1 i s.re hi
  subst eA
  have il : i < σ.length := by rw [← RE.len _ _ _ s.re]; exact hi
  have es : σ[i]? = some ((σ[i]?).getD none) := by rw [List.getElem?_eq_getElem il]; rfl
  have cnt : ∀ b, ((C1 ++ C2) ++ B).count b ≤ ((C1 ++ (Bo ++ C2)) ++ B).count b := fun b => by
    simp only [List.count_append]
    omega
  have sub : ∀ b ∈ (C1 ++ C2) ++ B, b ∈ (C1 ++ (Bo ++ C2)) ++ B := fun b hb => List.count_pos_iff.mp (Nat.lt_of_lt_of_le (List.count_pos_iff.mpr hb) (cnt b))
  have suba : ∀ b, Av ((C1 ++ C2) ++ B) Rt b → Av ((C1 ++ (Bo ++ C2)) ++ B) Rt b := fun b z => z.imp (sub b) id
  refine ⟨C1 ++ C2, ⟨s.go.sub sub, List.nodup_iff_count.mpr fun b => Nat.le_trans (cnt b) (List.nodup_iff_count.mp s.nd b), fun b hb => s.rt b (sub b hb), s.th, s.bth, ?_⟩, suba⟩
  have := (hu H1 (Av ((C1 ++ C2) ++ B) Rt) (fun _ _ q _ => q) (fun _ _ q => q) fun b z => .inl (suba b z)).1 ((σ[i]?).getD none)
  rw [set_same es] at this
  exact this
/-- the outs are back in their slots -/
theorem Sx.backs : ∀ (is : List Nat) (outs : Env) (σo : St) (env : Env) (A1 A2 : List Addr), Same σ is σo → Sx K Rt σ H A H1 env A1 (A2 ++ B) → RE K H1 (Av (A1 ++ (A2 ++ B)) Rt) outs σo A2 →
    ∃ A', Sx K Rt σ H A H1 (backO is outs env) A' B ∧ ∀ b, Av (A' ++ B) Rt b → Av (A1 ++ (A2 ++ B)) Rt b
  | [], outs, σo, env, A1, A2, sm, s, re => by
    cases (show σo = [] from sm)
    cases outs with
    | nil =>
      obtain ⟨_, rfl⟩ := re
      exact ⟨A1, s, fun b z => z⟩
    | cons o outs => exact absurd (RE.len _ _ _ re) (by simp)
  | i :: is, outs, σo, env, A1, A2, sm, s, re => by
    obtain ⟨x, r, rfl, hx, sm⟩ := sm
    have hi : i < env.length := by rw [RE.len _ _ _ s.re]; exact (List.getElem?_eq_some_iff.mp hx).1
    cases outs with
    | nil => exact absurd (RE.len _ _ _ re) (by simp)
    | cons o outs =>
      cases o with
      | none =>
        obtain ⟨y, r', e, re⟩ := re
        cases e
        obtain ⟨A', s', sub⟩ := s.clear hi
        obtain ⟨A'', s'', sub'⟩ := Sx.backs is outs r (env.set i none) A' A2 sm s' (RE.mono _ _ _ (fun _ _ q _ => q) (fun _ _ q => q) (fun b z => .inl (sub b z)) re)
        exact ⟨A'', s'', fun b z => sub b (sub' b z)⟩
      | some w =>
        obtain ⟨v, r', D1, D2, e, rfl, ow, re⟩ := re
        cases e
        rw [List.append_assoc] at s ow re
        obtain ⟨A', s', sub⟩ := s.put ow hi
        rw [set_same hx] at s'
        obtain ⟨A'', s'', sub'⟩ := Sx.backs is outs r (env.set i (some w)) A' D2 sm s' (RE.mono _ _ _ (fun _ _ q _ => q) (fun _ _ q => q) (fun b z => .inl (sub b z)) re)
        exact ⟨A'', s'', fun b z => by rw [List.append_assoc]; exact sub b (sub' b z)⟩
end
section
variable {X : Cx} {g : Cfg} {pos : Pos} {a b c : Expr} {es : List Expr} {ia ib ic : E} {as : As} {i : Nat} {x : Str}
theorem sna_nil : PA X [] (tA X.K g .nil) := PA.imp pa_nil fun σ H Q ⟨Rt, env, A, rl, p⟩ => p [] H A [] rl.sx ⟨⟨rfl, rfl⟩, rfl, rfl⟩
theorem sna_cons (he : PE X a (tE X.K g ia)) (hs : PA X es (tA X.K g as)) (hst : starEach (a :: es) X.env = (false, eval a X.env) :: starEach es X.env) : PA X (a :: es) (tA X.K g (.cons ia as)) :=
  PA.imp (pa_cons he hs hst) fun σ H Q ⟨Rt, env, A, rl, p⟩ => by
    refine ⟨Rt, env, A, rl, Post.seq p fun w e1 v1 H1 A1 B1 s1 o1 p1 => ?_⟩
    have fz := s1.fz0 o1
    have s0 := s1.drop0
    refine ⟨RtB [] Rt, e1, A1, s0.rl, Post.seq2 s0 p1 fun r e2 vs H2 A2 B2 s2 o2 p2 => ?_⟩
    obtain ⟨o2, e2', va⟩ := o2
    refine p2 (v1 :: vs) H2 A2 B2 (s0.next s2) ⟨⟨v1, vs, [], B2, rfl, rfl, s0.own s2 (w := .val w.fz) ⟨rfl, fz⟩, Sx.ownL2 (B1 := []) o2⟩, e2', v1, vs, rfl, va⟩
theorem sna_io (hN : X.N[i]? = some x) (hv : Vis X.env.scope x) (hd : (x == ("__debug__" : Str)) = false) (hcd : (x == ("__classdict__" : Str)) = false) (hs : PA X es (tA X.K g as))
    (hst : starEach (.Name x pos :: es) X.env = (false, eval (.Name x pos) X.env) :: starEach es X.env) : PA X (.Name x pos :: es) (tA X.K g (.io i as)) :=
  PA.imp (pa_cons (pe_var hN hv hd hcd) hs hst) fun σ H Q ⟨Rt, env, A, rl, p⟩ => by
    have p' : Post X.K g (POA X.K σ (.io i as)) Rt σ H A (match env[i]? with
      | some (some w) => (evA g.G g.C as (env.set i none)).bind fun r env2 => .ok (w :: r.1, i :: r.2) env2
      | _ => .no) Q := p
    cases e : env[i]? with
    | none => rw [e] at p'; exact p'.elim
    | some o =>
    cases o with
    | none => rw [e] at p'; exact p'.elim
    | some w =>
      rw [e] at p'
      have hi : i < env.length := (List.getElem?_eq_some_iff.mp e).1
      obtain ⟨A1, B, A2, eA, _, hw, hu⟩ := RE.slot env σ A i rl.re hi
      obtain ⟨v, ev, ow⟩ := hw w e
      subst eA
      have eqm : ∀ b, b ∈ (A1 ++ A2) ++ B ↔ b ∈ A1 ++ (B ++ A2) := fun b => by
        simp only [List.mem_append]
        constructor
        · rintro ((z | z) | z)
          · exact .inl z
          · exact .inr (.inr z)
          · exact .inr (.inl z)
        · rintro (z | z | z)
          · exact .inl (.inl z)
          · exact .inr z
          · exact .inl (.inr z)
      have suba : ∀ b, Av ((A1 ++ A2) ++ B) Rt b → Av (A1 ++ (B ++ A2)) Rt b := fun b z => z.imp (eqm b).mp id
      have re := (hu H (Av ((A1 ++ A2) ++ B) Rt) (fun _ _ q _ => q) (fun _ _ q => q) (fun b z => .inl (suba b z))).1 (some v)
      rw [set_same ev] at re
      have nd : ((A1 ++ A2) ++ B).Nodup := perm_nodup (by
        rw [List.perm_iff_count]
        intro a
        simp only [List.count_append]
        omega) rl.nd
      have s1 : Sx X.K Rt σ H (A1 ++ (B ++ A2)) H (env.set i none) (A1 ++ A2) B := ⟨Go.refl.sub fun b hb => (eqm b).mp hb, nd, fun b hb => rl.rt b ((eqm b).mp hb), rl.th, (fun b hb => by
        obtain ⟨o, q, _⟩ := Own.there w v B ow b hb
        rw [q]; exact (fun z => by cases z)), re⟩
      have o1 : Own X.K H (Av ((A1 ++ A2) ++ B) Rt) w v B := Own.mono w v B (fun _ _ q _ => q) (fun _ _ q => q) (fun b z => .inl (suba b z)) ow
      refine ⟨v, ev, RtB B Rt, env.set i none, A1 ++ A2, s1.rl, Post.seq2 s1 p' fun r e2 vs H2 A3 B2 s2 o2 p2 => ?_⟩
      obtain ⟨o2, e2', va⟩ := o2
      exact p2 (v :: vs) H2 A3 (B ++ B2) (s1.next s2) ⟨⟨v, vs, B, B2, rfl, rfl, s1.own s2 o1, Sx.ownL2 o2⟩, congrArg (i :: ·) e2', v, vs, rfl, ev, va⟩
/-- the callee's promise from the caller's state -/
theorem call_ev {K : PySem.W.Frag} {f n : Nat} {io : List Nat} {ds : List T} {dvs : List V} {Rt : Addr → Prop} {σ : St} {H H1 : Hp} {A A1 B1 : List Addr} {e1 : Env} {ws : List W × List Nat} {vs : List V} {Q : VK} (hio : ioPos 0 as = io) (hdv : ∀ H av, FzL K H av ds dvs)
    (hn : (vs ++ dvs).length = n) (s1 : Sx K Rt σ H A H1 e1 A1 B1) (o1 : POA K σ as ws vs H1 (Av (A1 ++ B1) Rt) B1)
    (p : Post K g (PO1 K) Rt σ H A (match g.C f (ws.1 ++ ds.map .val) with
      | .ok w outs => .ok w (backO ws.2 outs e1)
      | .exc c t outs => .exc c t (backO ws.2 outs e1)
      | .no => .no) Q) : spC K g.xr g.C f io n (vs ++ dvs) H1 Q (WE g.W σ) := by
  obtain ⟨o1, e2, va⟩ := o1
  have sm : Same σ ws.2 (io.map fun j => (vs ++ dvs)[j]?) := by
    rw [e2, ← hio]
    exact same_of as vs [] va
  have avq : ∀ b, Av B1 (RtB A1 Rt) b → Av (A1 ++ B1) Rt b := fun b z => by
    rcases z with z | z | z
    · exact .inl (List.mem_append_right _ z)
    · exact .inl (List.mem_append_left _ z)
    · exact .inr z
  have ow : OwnL K H1 (Av B1 (RtB A1 Rt)) (ws.1 ++ ds.map .val) (vs ++ dvs) B1 := OwnL.vals ws.1 vs B1 (OwnL.mono _ _ _ (fun _ _ q _ => q) (fun _ _ q => q) (fun b z => .inl (avq b z)) o1) (hdv _ _)
  refine ⟨hn, RtB A1 Rt, ws.1 ++ ds.map .val, B1, ⟨(List.nodup_append.mp s1.nd).2.1, fun b hb z => ?_, fun b z => ?_, OwnL.re _ _ _ ow⟩, ?_⟩
  · rcases z with z | z
    · exact (List.nodup_append.mp s1.nd).2.2 b z b hb rfl
    · exact s1.rt b (List.mem_append_right _ hb) z
  · rcases z with z | z
    · obtain ⟨o, q, _⟩ := RE.there _ _ _ s1.re b z
      rw [q]; exact fun z => by cases z
    · exact s1.th b z
  · cases e : g.C f (ws.1 ++ ds.map .val) with
    | no => rw [e] at p; exact p.elim
    | ok w outs =>
      rw [e] at p
      intro v H2 A2 B2 s2 o2
      obtain ⟨s3, re3⟩ := s1.back s2
      obtain ⟨A3, s4, sub⟩ := Sx.backs ws.2 outs _ e1 A1 A2 sm s3 re3
      refine p v H2 A3 B2 s4 (Own.mono w v B2 (fun _ _ q _ => q) (fun _ _ q => q) (fun b z => .inl ?_) o2)
      rcases sub b z with z | z
      · rcases List.mem_append.mp z with z | z
        · exact .inr (.inl z)
        · exact .inl z
      · exact .inr (.inr z)
    | exc c t outs =>
      rw [e] at p
      intro cls d H2 A2 s2 px
      obtain ⟨s3, re3⟩ := s1.back s2
      obtain ⟨A3, s4, sub⟩ := Sx.backs ws.2 outs _ e1 A1 A2 sm s3 re3
      refine p cls d H2 A3 s4 (g.xm c t H2 _ _ cls d (fun b z => ?_) px)
      rcases sub b z with z | z
      · rcases List.mem_append.mp z with z | z
        · exact .inr (.inl z)
        · exact .inl z
      · exact .inr (.inr z)
/-- a def that can be called by name -/
structure FnC (P : Program) (w : World) (K : PySem.W.Frag) (mg : Str → Option Value) (base : Heap) (xr : XR) (C : Calls) (d : Nat) (f : Nat) (x : Str) (io : List Nat) (n : Nat) (dvs : List V) : Prop where
  ex : ∃ fa fd ps ds, FnOk P w K mg base (L2.CX P w) d fa fd ps (spC K xr C f io n) ∧ mg x = some (.ref fa) ∧ PySem.W.keepIn K (.ref fa) = true ∧ Binds K fd ps ds ∧ Vals dvs ds
theorem snd_call {f n k : Nat} {io : List Nat} {ds : List T} {dvs : List V} {p0 : Pos} (F : FnC X.prog X.w X.K X.mg X.base g.xr g.C k f x io n dvs) (hr : Room k X.A) (tk : Takes X g.W) (hg : Gl X x) (hio : ioPos 0 as = io) (hdv : ∀ H av, FzL X.K H av ds dvs) (hn : es.length + 1 + dvs.length = n)
    (ha : PA X (a :: es) (tA X.K g as)) (hvl : ∀ vs σ, VsAt σ as vs → vs.length = es.length + 1) (hdb : (x == ("__debug__" : Str)) = false) (he : starEach (a :: es) X.env = (false, eval a X.env) :: starEach es X.env) (hpl : (backTo pos (starEach es X.env)).any (·.1) = false) :
    PE X (.Call (.Name x p0) (a :: es) [] pos) (tE X.K g (.call f as ds)) := by
  obtain ⟨fa, fd, ps, dd, F, hm, hk, hb, hd⟩ := F.ex
  refine PE.imp (pe_callSD F hr hg hm hk hb hd (fun σ => passAt tk σ) ha hdb he hpl) fun σ H Q ⟨Rt, env, A, rl, p⟩ => ?_
  exact ⟨Rt, env, A, rl, Post.seq p fun ws e1 vs H1 A1 B1 s1 o1 p1 => call_ev hio hdv (by rw [List.length_append, hvl vs σ o1.2.2]; exact hn) s1 o1 p1⟩
end
/-! ### a def keeps its promise -/
section
variable {P : Program} {w : World} {K : PySem.W.Frag} {mg : Str → Option Value} {base : Heap} {x qual : Str} {params : Arguments} {body : List Stmt} {scope : Scope} {dvs : List V} {kws : List (Str × V)} {f : Addr} {fd : FuncData}
/-- the wish of a def's body -/
def gOf (G : Nat → Option T) (C : Calls) (xr : XR) (xm : ∀ c t H (av av' : Addr → Prop) cls d, (∀ b, av' b → av b) → xr c t H av cls d → xr c t H av' cls d) (E : XK) : Cfg := ⟨G, C, xr, fun cls d _ H => E cls d H, xm⟩
theorem fn_succ {G : Nat → Option T} {tab : Nat → Option FD} {xr : XR} {xm : ∀ c t H (av av' : Addr → Prop) cls d, (∀ b, av' b → av b) → xr c t H av cls d → xr c t H av' cls d} {N ps : List Str} {d i : Nat} {fd0 : FD} (F : FunD K x qual params body scope dvs kws f fd) (S : FnScope N ps scope)
    (ht : tab i = some fd0) (hnp : fd0.np = ps.length) (hns : fd0.ns = N.length) (hnd : fd0.io.Nodup) (hio : ∀ j ∈ fd0.io, j < fd0.np)
    (hb : ∀ (cdv : Value) (A : Around) (outer : List PySem.Env) (s : Shared) (H : Hp) (E : XK), Room d (A.deeper (PyProof.Rows.envOfC qual scope s.heap.objs.size f cdv)) →
      PSs (cxOf (L2.CX P w) P w K mg base N qual scope f cdv A outer s H E) body (tSs K (gOf G (callN G tab d) xr xm E) fd0.io fd0.body)) :
    FnOk P w K mg base (L2.CX P w) (d + 1) f fd ps (spC K xr (callN G tab (d + 1)) i fd0.io ps.length) := by
  refine F.ok S (fun vs H Q E h => h.1) fun cdv A outer s H vs Q E hr h => ⟨_, hb cdv A outer s H E hr, ?_⟩
  obtain ⟨hl, Rt, ws, A0, rl, h⟩ := h
  have h' : (match (if ws.length = fd0.np then (match evSs G (callN G tab d) fd0.body (ws.map some ++ List.replicate (fd0.ns - fd0.np) none) with
      | .ok .nx env => CR.ok (.val .non) (outE env fd0.io)
      | .ok (.rt w) env => .ok w (outE env fd0.io)
      | .ok _ _ => .no
      | .exc c t env => .exc c t (outE env fd0.io)
      | .no => .no) else .no) with
    | .ok w outs => ∀ v H' A' B, Sx K Rt (fd0.io.map fun j => vs[j]?) H A0 H' outs A' B → Own K H' (Av (A' ++ B) Rt) w v B → Q v H'
    | .exc c t outs => ∀ cls d H' A', Sx K Rt (fd0.io.map fun j => vs[j]?) H A0 H' outs A' [] → xr c t H' (Av (A' ++ []) Rt) cls d → E cls d H'
    | .no => False) := by
    have e : callN G tab (d + 1) i ws = (if ws.length = fd0.np then (match evSs G (callN G tab d) fd0.body (ws.map some ++ List.replicate (fd0.ns - fd0.np) none) with
      | .ok .nx env => CR.ok (.val .non) (outE env fd0.io)
      | .ok (.rt w) env => .ok w (outE env fd0.io)
      | .ok _ _ => .no
      | .exc c t env => .exc c t (outE env fd0.io)
      | .no => .no) else .no) := by
      show (match tab i with | none => CR.no | some fd => _) = _
      rw [ht] <;> rfl
    rw [e] at h
    exact h
  have wl : ws.length = fd0.np := by
    by_cases c : ws.length = fd0.np
    · exact c
    · rw [if_neg c] at h'; exact h'.elim
  rw [if_pos wl] at h'
  have vl : vs.length = fd0.np := hl.trans hnp.symm
  have st : L2.start N vs = vs.map some ++ List.replicate (fd0.ns - fd0.np) none := by
    unfold L2.start
    rw [vl, hns]
  have rl2 : Rl K Rt H (L2.start N vs) (ws.map some ++ List.replicate (fd0.ns - fd0.np) none) A0 := ⟨rl.nd, rl.rt, rl.th, by rw [st]; exact RE.nones _ _ _ _ rl.re⟩
  have pick : ∀ {σ' : St} {H' : Hp} {env : Env} {A' B : List Addr}, Kp fd0.io (L2.start N vs) σ' → Sx K Rt σ' H A0 H' env A' B → ∃ A2, Sx K Rt (fd0.io.map fun j => vs[j]?) H A0 H' (outE env fd0.io) A2 B ∧ ∀ b, Av (A2 ++ B) Rt b → Av (A' ++ B) Rt b := fun {σ' H' env A' B} kp sx => by
    have il : ∀ j ∈ fd0.io, j < env.length := fun j hj => by
      rw [RE.len _ _ _ sx.re, kp.1, st, List.length_append, List.length_map, vl]
      have := hio j hj
      omega
    obtain ⟨A2, c, re⟩ := RE.pick fd0.io env A' hnd il sx.re
    have cnt : ∀ b, (A2 ++ B).count b ≤ (A' ++ B).count b := fun b => by
      have := c b
      simp only [List.count_append]
      omega
    have sub : ∀ b ∈ A2 ++ B, b ∈ A' ++ B := fun b hb => List.count_pos_iff.mp (Nat.lt_of_lt_of_le (List.count_pos_iff.mpr hb) (cnt b))
    have suba : ∀ b, Av (A2 ++ B) Rt b → Av (A' ++ B) Rt b := fun b z => z.imp (sub b) id
    have es : (fd0.io.map fun j => (σ'[j]?).getD none) = fd0.io.map fun j => vs[j]? := List.map_congr_left fun j hj => by
      have jl : j < vs.length := by rw [vl]; exact hio j hj
      rw [kp.2 j hj, st, List.getElem?_append_left (by rw [List.length_map]; exact jl), List.getElem?_map, List.getElem?_eq_getElem jl]
      rfl
    rw [es] at re
    exact ⟨A2, ⟨sx.go.sub sub, List.nodup_iff_count.mpr fun b => Nat.le_trans (cnt b) (List.nodup_iff_count.mp sx.nd b), fun b hb => sx.rt b (sub b hb), sx.th, sx.bth, RE.mono _ _ _ (fun _ _ q _ => q) (fun _ _ q => q) (fun b z => .inl (suba b z)) re⟩, suba⟩
  refine ⟨Rt, _, A0, rl2, ?_⟩
  show PostS K _ fd0.io Rt (L2.start N vs) H A0 (evSs G (callN G tab d) fd0.body _) _
  cases e : evSs G (callN G tab d) fd0.body (ws.map some ++ List.replicate (fd0.ns - fd0.np) none) with
  | no => rw [e] at h'; exact h'.elim
  | exc c t env =>
    rw [e] at h'
    intro cls dd σ' H' A' kp sx px
    obtain ⟨A2, s2, sub⟩ := pick kp sx
    exact h' cls dd H' A2 s2 (xm c t H' _ _ cls dd sub px)
  | ok r env =>
    rw [e] at h'
    cases r with
    | nx =>
      intro σ' H' A' kp sx
      obtain ⟨A2, s2, sub⟩ := pick kp sx
      exact h' .non H' A2 [] s2 ⟨rfl, rfl⟩
    | rt w =>
      intro v σ' H' A' B kp sx ow
      obtain ⟨A2, s2, sub⟩ := pick kp sx
      exact h' v H' A2 B s2 (Own.mono w v B (fun _ _ q _ => q) (fun _ _ q => q) (fun b z => .inl (sub b z)) ow)
    | bk => exact h'.elim
    | ct => exact h'.elim
theorem fn_zero {G : Nat → Option T} {tab : Nat → Option FD} {xr : XR} {CX : CXT} {io : List Nat} {n i : Nat} {ps : List Str} (hn : n = ps.length) : FnOk P w K mg base CX 0 f fd ps (spC K xr (callN G tab 0) i io n) :=
  ⟨fun vs H Q E h => h.1.trans hn, fun A outer s H args us vs Q E hr he hb hv hs => by
    obtain ⟨_, _, _, _, _, h⟩ := hs
    exact h.elim⟩
end
end Ev
set_option maxHeartbeats 4000000
/-! EvS: sets that are read at once: len and sorted of a set comprehension, of set(list). -/
namespace Ev
open PySem L2
/-- the empty set as the model lays it -/
abbrev setNil (w : World) : Obj := { cls := .type "set", dict := none, data := .set #[] 0 (.fresh 0 0 (!w.params.followText "set-order")) }
section
variable {X : Cx}
/-- a set comprehension over any kind of set: O0 the empty one, rA how an item is put in -/
def tSg (O0 : Addr → HO) (rA : V → List V → Hp → VK → Prop) (wi : TI) (g : TG) (tt : TT) (te : TE) (vs : List Nat) : TE := fun σ H Q => wi σ H fun J H1 => ∀ D, H1 D = none → ∃ W : Nat → Nat → Hp → Prop, (∃ m, W 0 m (upd H1 D (O0 D))) ∧ ∀ i m H, W i m H →
  (J.stop i H ∧ Q (.ref D) H) ∨ (J.go i H ∧ ∃ Nx : Hp → Prop, (∀ H', Nx H' → ∃ m', m' < m ∧ W (i + 1) m' H') ∧ ∀ x H', J.yld i H x H' → g x (L2.wipe σ vs) H' fun σ2 H2 => L2.wipe σ2 vs = L2.wipe σ vs ∧ tt σ2 H2 fun b H3 =>
    if b = true then te σ2 H3 fun y H4 => rA (.ref D) [y] H4 (fun _ H5 => Nx H5) else Nx H3)
theorem pe_sg {O0 : Addr → HO} {rA : V → List V → Hp → VK → Prop} {elt tg iter : Expr} {ifs : List Expr} {scope : Scope} {own : List (Str × Nat)} {pos : Pos} {wi : TI} {g : TG} {tt : TT} {te : TE}
    (hO : ∀ (H : Hp) (h : Heap), ObjOk X.prog X.w H (h.push (setNil X.w)) h.objs.size (O0 h.objs.size)) (hA : ∀ Y : Cx, Y.prog = X.prog → Y.w = X.w → MtR Y "set.add" rA)
    (hc : X.calm = true) (hN : X.N.Nodup) (hi : PI X tg iter wi) (ok : BlkOk X.N X.env.scope scope own)
    (hg : ∀ (s : Shared) (H : Hp) (C : Addr) (cl : List (Str × Addr)) (fp : List Addr), PG (X.blk s H scope (compEnvC scope cl C X.env) fp) tg g)
    (ht : ∀ (s : Shared) (H : Hp) (C : Addr) (cl : List (Str × Addr)) (fp : List Addr), PTs (X.blk s H scope (compEnvC scope cl C X.env) fp) ifs tt)
    (he : ∀ (s : Shared) (H : Hp) (C : Addr) (cl : List (Str × Addr)) (fp : List Addr), PE (X.blk s H scope (compEnvC scope cl C X.env) fp) elt te) (hs : ∀ x, foldedSetIterable iter X.env x = pure x) :
    PE X (.SetComp elt [⟨tg, iter, ifs, 0⟩] scope pos) (tSg O0 rA wi g tt te (own.map (·.2))) := by
  refine ⟨fun pins s σ H Q I hq => ?_⟩
  rw [PpSet.eval_SetComp]
  have clo : ∀ y ∈ scope.names, y.2 = .free → ∃ c, X.env.cells.lookup y.1 = some c := fun y hy e => (ok.free y hy e).elim (fun k => I.ok.has _ (.inl k)) fun k => I.ok.has _ (.inr k)
  refine wpAny_comprehension_free (use := none) rfl hs (closure_ok clo) ok.kind (fun y hy e => by rw [ok.uniq y hy, e]) (thn (hi.run pins s σ H _ I hq) fun _ _ hx => thn hx fun _ sa ha => ?_)
  obtain ⟨it, fp, tn, J, Ha, e, Ia, T, sta, fa, q⟩ := ha
  subst e
  refine PpSet.newSet_ok (newEnv_comp ?_)
  generalize hD : sa.heap.objs.size = D
  have freeD : Ha D = none := Ia.hok.fresh (Nat.le_of_eq hD)
  obtain ⟨W, ⟨m0, w0⟩, turn⟩ := q D freeD
  generalize esb : ({ sa with heap := sa.heap.push (setNil X.w) } : Shared) = sb
  have Ib : Inv X pins σ (upd Ha D (O0 D)) sb := by
    rw [← esb]
    refine Ia.laid (t' := sa.toks) (fun b o e => Heap.get?_push_of_some _ e) (Nat.le_of_eq hD) ?_
    rw [← hD]
    exact hO _ _
  have hb : sb.heap = sa.heap.push (setNil X.w) := by rw [← esb]
  have below : ∀ b ∈ fp, b < sa.heap.objs.size := fun b hb => (T.obj _ _ sta b hb).elim fun _ e => Heap.lt_size e.1
  have fb : ∀ b ∈ fp, FpOk X pins (upd Ha D (O0 D)) b ∧ b < sb.heap.objs.size := fun b hbf => by
    have lt := below b hbf
    refine ⟨⟨(upd_ne (by rw [← hD]; exact Nat.ne_of_lt lt)).trans (fa b hbf).1, (fa b hbf).2⟩, ?_⟩
    rw [hb, Heap.size_push]
    exact Nat.lt_succ_of_lt lt
  have stb : tn 0 sb.heap := T.keep _ _ _ sta fun b _ o e => by
    rw [hb]
    exact Heap.get?_push_of_some _ e
  have Ic := block_start Ib ok hN fb
  have pg := hg sb (upd Ha D (O0 D)) sb.heap.objs.size (cellsFrom (sb.heap.objs.size + 1) scope.names (cloFrom X.env.cells scope.names [])) fp
  have pt := ht sb (upd Ha D (O0 D)) sb.heap.objs.size (cellsFrom (sb.heap.objs.size + 1) scope.names (cloFrom X.env.cells scope.names [])) fp
  have pe := he sb (upd Ha D (O0 D)) sb.heap.objs.size (cellsFrom (sb.heap.objs.size + 1) scope.names (cloFrom X.env.cells scope.names [])) fp
  show codeAny _ _ (.compStart (.SetComp elt [⟨tg, iter, ifs, 0⟩] scope pos) 0 (.ref it) (.ref D) (compEnvC scope (cellsFrom (sb.heap.objs.size + 1) scope.names (cloFrom X.env.cells scope.names [])) sb.heap.objs.size X.env))
    (compPost (model X.prog X.w) X.A X.xe none (EP X pins σ Q) (.ref D) sb.heap.objs.size) { sb with heap := pushCells (sb.heap.push { cls := .type "dict", data := .dict #[] }) scope.names }
  have nfp : ∀ b ∈ fp, (upd Ha D (O0 D)) b = none := fun b h => (fb b h).1.1
  generalize hce : compEnvC scope (cellsFrom (sb.heap.objs.size + 1) scope.names (cloFrom X.env.cells scope.names [])) sb.heap.objs.size X.env = ce at Ic pg pt pe ⊢
  have cL : ce.locals = sb.heap.objs.size := by
    subst hce
    rfl
  generalize hHb : upd Ha D (O0 D) = Hb at Ib Ic pg pt pe w0 nfp fb
  generalize hsc : ({ sb with heap := pushCells (sb.heap.push { cls := .type "dict", data := .dict #[] }) scope.names } : Shared) = sc at Ic ⊢
  have stc : tn 0 sc.heap := T.keep _ _ _ stb fun b _ o e => by
    rw [← hsc]
    exact pushCells_keeps _ _ _ _ (Heap.get?_push_of_some _ e)
  have stat : ∀ {σ' : L2.St} {H' : Hp} {s' : Shared}, Inv (X.blk sb Hb scope ce fp) [] σ' H' s' → (∀ b ∈ fp, H' b = none) → ∀ b ∈ fp, FpOk (X.blk sb Hb scope ce fp) [] H' b := fun {σ' H' s'} J' hn b hb' =>
    ⟨hn b hb', (J'.ok.exf b hb').1, J'.ok.exfs b hb', .inl hb', fun x c e => (J'.ok.exf b hb').2 x c e, fun p hp => absurd (show p ∈ ([] : List (Addr × Obj)) ++ [] from hp) (by simp)⟩
  have loop : codeAny (model X.prog X.w) X.A (.compLoop (.SetComp elt [⟨tg, iter, ifs, 0⟩] scope pos) 0 (.ref it) (.ref D) ce) (compPost (model X.prog X.w) X.A X.xe none (EP X pins σ Q) (.ref D) sb.heap.objs.size) sc := by
    refine PpSet.compLoopS_any (fun n s' => ∃ i H', Inv (X.blk sb Hb scope ce fp) [] (L2.wipe σ (own.map (·.2))) H' s' ∧ tn i s'.heap ∧ (∀ b ∈ fp, H' b = none) ∧ W i n H') ?_ m0 ⟨0, Hb, Ic, stc, nfp, w0⟩
    rintro n sd ⟨i, Hd, Id, std, nd, wd⟩
    rcases turn i n Hd wd with ⟨stop, qq⟩ | ⟨go, Nx, hNx, step⟩
    · refine thnF (T.done (X.blk sb Hb scope ce fp) rfl rfl rfl hc i [] sd _ Hd (fun _ _ => False) Id (stat Id nd) std stop) fun r se ⟨hr, Ie⟩ => ?_
      subst hr
      have If : Inv X pins σ Hd se := Ib.call' (ch := fp) Ie.os Ie.base Ie.hok Ie.bare fun b h => ⟨(fb b h).1.2.2.2.1, (fb b h).1.2.1, (fb b h).1.2.2.2.2.1, (fb b h).1.2.2.2.2.2⟩
      have nC : Hd sb.heap.objs.size = none := cL ▸ (show Hd ce.locals = none from Ie.free)
      obtain ⟨m, hn, _⟩ := Ie.loc
      have hn' : se.heap.Ns sb.heap.objs.size m := cL ▸ (show se.heap.Ns ce.locals m from hn)
      obtain ⟨f0, f1, f2, f3, f4, f5⟩ := Ib.fpOk (Nat.le_refl _) nC
      exact ⟨m, hn', fun h'' sbt => ⟨.ref D, Hd, If.turned (t' := se.toks) (fun b o hb e => (sbt.2 b hb).trans e) f0 f1 f3 f4 f5, rfl, qq⟩⟩
    · refine thnF (T.item (X.blk sb Hb scope ce fp) rfl rfl rfl hc i [] sd _ Hd (fun _ _ => False) Id (stat Id nd) std go) fun r se ⟨u, hr, he'⟩ => ?_
      subst hr
      refine thnF he' fun _ sf ⟨x, Hf, If, rf, yf, stf, nf⟩ => ?_
      refine thnF (pg.run _ sf _ Hf x u _ (If.pinned (stat If nf) (T.obj _ _ stf)) rf (step x Hf yf)) fun _ sg ⟨σg, Hg, Ig, hwg, qg⟩ => ?_
      refine thnF (pt.run _ sg σg Hg _ Ig qg) fun b sh ⟨Hh, Ih, qh⟩ => ?_
      have fin : ∀ {s' : Shared} {H' : Hp}, Inv (X.blk sb Hb scope ce fp) ([] ++ pinsAt fp sf.heap) σg H' s' → Nx H' → ∃ m, m < n ∧ ∃ i H', Inv (X.blk sb Hb scope ce fp) [] (L2.wipe σ (own.map (·.2))) H' s' ∧ tn i s'.heap ∧ (∀ b ∈ fp, H' b = none) ∧ W i m H' := fun {s' H'} J' nx => by
        obtain ⟨m', hm, w'⟩ := hNx H' nx
        have keep : ∀ b ∈ fp, ∀ o, sf.heap.get? b = some o → s'.heap.get? b = some o ∧ H' b = none := fun b hb' o e => by
          have z := J'.pin (b, o) (List.mem_append_right _ (List.mem_append_right _ (mem_pinsAt hb' e)))
          exact ⟨z.1, z.2.1⟩
        refine ⟨m', hm, i + 1, H', (J'.unpinned (pins := [])).weak (by rw [← hwg, wipe_length]) (fun j v e => (wipe_some (by rw [← hwg] at e; exact e)).1), T.keep _ _ _ stf fun b hb' o e => (keep b hb' o e).1, fun b hb' => ?_, w'⟩
        obtain ⟨o, e, _⟩ := T.obj _ _ stf b hb'
        exact (keep b hb' o e).2
      cases b with
      | false =>
        simp only [Bool.false_eq_true, if_false] at qh ⊢
        exact fin Ih qh
      | true =>
        simp only [if_true] at qh ⊢
        refine thnF (pe.run _ sh σg Hh _ Ih qh) fun z si ⟨yv, Hi, Ii, ri, ra⟩ => ?_
        refine thnF (hA (X.blk sb Hb scope ce fp) rfl rfl _ si σg Hi (.ref D) [yv] (.ref D) [z] _ Ii rfl (.cons ri .nil) ra) fun _ sj ⟨_, Hj, Ij, _, nx⟩ => fin Ij nx
  exact PpSet.codeAny_compStart_set loop (T.self X.A 0 _ _ _ stc loop)
end
end Ev
set_option maxHeartbeats 4000000
/-! EvT: set(list of ints). -/
namespace Ev
open PySem PySem.Spec PyProof.Rows
section
variable {P : Program} {w : World} {A : Around} {E : Value → Shared → Prop} {s : Shared}
theorem call_setL {l : Addr} {items : Array Value} (ns : List Int) {Q : Value → Shared → Prop} (hh : A.handled = none) (hl : s.heap.IsList l items) (hit : IntsAre items.toList ns) (hb : ns.length + 1 < scanBound)
    (h : ∀ (h' : Heap) (tk c : Nat), L2.SetR w h' s.heap.objs.size (fun j => decide (j ∈ ns)) c → (∀ b o, s.heap.get? b = some o → h'.get? b = some o) → Q (.ref s.heap.objs.size) { s with heap := h', toks := tk }) :
    wpAny (model P w) A (call (.type "set") [.ref l]) Q E s := by
  have size_eq : items.size = ns.length := by
    have z := IntsAre.length hit
    rwa [Array.length_toList] at z
  obtain ⟨cc, rest, mro⟩ := F.called_set.mro
  have made := F.called_set.made
  have sub := F.called_set.sub
  refine wpAny_call (codeAny_of_tree ?_)
  show wpAny _ _ (callAny (.type "set") _) _ _ _
  refine wpAny_pure ⟨Code.quiet_builtin _ (by decide +kernel), codeAny_builtin F.entry_type_call ?_⟩
  rw [Around.under_plain (weight_type_call_type "set" [.ref l] []) rfl]
  have nt := F.called_set.notType
  have cn := F.called_set.canCreate
  have tc := F.typeCall_set_1 (.ref l)
  repeat (any_goals (first | assumption | wp_step))
  refine codeAny_mono (L2.code_set_led1 (.ref l) (E := E) (Q₁ := fun obj sA => obj = .ref s.heap.objs.size ∧ sA = { s with heap := s.heap.push (setNil w) }) ⟨rfl, rfl⟩) fun r sA hr => ?_
  cases r with
  | error e => exact hr
  | ok fl =>
    cases fl with
    | ret obj =>
      obtain ⟨rfl, rfl⟩ := hr
      have atS : (s.heap.push (setNil w)).get? s.heap.objs.size = some (setNil w) := Heap.get?_push_size _ rfl
      have ty : Shared.TypeIs { s with heap := s.heap.push (setNil w) } (.ref s.heap.objs.size) "set" := ⟨_, atS, rfl⟩
      have li := F.called_set.init.lookup
      have bi := F.called_set.init.bind (.ref s.heap.objs.size)
      repeat (any_goals (first | assumption | wp_step))
      refine codeAny_mono (codeAny_call_builtin (R := wants (fun r sB => r = .none ∧ ∃ h' tk c, sB = { s with heap := h', toks := tk } ∧ L2.SetR w h' s.heap.objs.size (fun j => decide (j ∈ ns)) c ∧
          (∀ b o, s.heap.get? b = some o → h'.get? b = some o)) E) F.called_set.init.plain F.entry_set_init (check_set_init_1 ty ?_)) fun rB sB hrB => ?_
      · obtain ⟨ol, atL, cl, nl, dl⟩ := hl
        obtain ⟨ocls, odict, odata, oslots⟩ := ol
        simp only at cl dl
        subst cl dl
        have atL' : (s.heap.push (setNil w)).get? l = some { cls := .type "list", dict := odict, data := .seq items nl, slots := oslots } := Heap.get?_push_of_some _ atL
        have s1 := F.sub_list_set
        have s2 := F.sub_list_frozenset
        have nd : (Value.type "list" == Value.type "dict") = false := by decide
        have isL : (s.heap.push (setNil w)).IsList l items := ⟨_, atL', rfl, nl, rfl⟩
        unfold Builtin.«set.__init__» noKeywords Builtin.Frozenset.updateFrom
        generalize eIter : pyIter = PI
        wp_walk
        subst eIter
        refine wpAny_pyIter_list isL ?_
        refine wpAny_bind (wpAny_runValue ?_)
        have ltL : l < s.heap.objs.size := Heap.lt_size atL
        have calm : A.in1.in1.in1.handled = none := by simp [hh]
        have neI : l ≠ (s.heap.push (setNil w)).objs.size := by
          rw [Heap.size_push]
          exact Nat.ne_of_lt (Nat.lt_succ_of_lt ltL)
        have notIn : s.heap.objs.size ∉ [(s.heap.push (setNil w)).objs.size, l] := by
          rw [Heap.size_push]
          simp only [List.mem_cons, List.not_mem_nil, or_false, not_or]
          exact ⟨Nat.ne_of_lt (Nat.lt_succ_self _), Nat.ne_of_gt ltL⟩
        have val : ∀ (i : Nat) (v : Value), items[i]? = some v → ∃ k t, ns[i]? = some k ∧ v = .int k t := fun i v hv => by
          have hi : i < ns.length := size_eq ▸ (Array.getElem?_eq_some_iff.mp hv).1
          obtain ⟨t, e⟩ := IntsAre.int_at hit i v (by rw [Array.getElem?_toList]; exact hv)
          exact ⟨ns[i], t, List.getElem?_eq_getElem hi, by rw [e, List.getD_eq_getElem?_getD, List.getElem?_eq_getElem hi]; rfl⟩
        refine L2.set_update_ints ((Walks.list calm _ l neI items).toS) s.heap.objs.size notIn ns size_eq hb val (items.size - 0) 0 _ (by omega) (Nat.zero_le _) ⟨⟨_, Heap.get?_push_size _ rfl, rfl, rfl⟩, (isL.push _)⟩ ⟨0, Nat.le_refl 0, L2.setR_new_at (Heap.get?_push_of_some _ atS)⟩ ?_
        intro sC c mv _ R
        obtain ⟨hC, gC, dC, tC, oC⟩ := sC
        obtain rfl : gC = s.gens := mv.gens
        obtain rfl : dC = s.drawn := mv.drawn
        obtain rfl : oC = s.os := mv.os
        refine wpAny_pure ?_
        show wpAny _ _ (ret Value.none) _ _ _
        refine wpAny_pure ⟨rfl, hC, tC, c, rfl, R, fun b o e => ?_⟩
        have lt := Heap.lt_size e
        refine mv.heap b o ?_ (Heap.get?_push_of_some _ (Heap.get?_push_of_some _ e))
        simp only [List.mem_cons, List.not_mem_nil, or_false, not_or, Heap.size_push]
        exact ⟨Nat.ne_of_lt lt, Nat.ne_of_lt (Nat.lt_succ_of_lt lt)⟩
      · cases rB with
        | error e => exact hrB
        | ok flB =>
          cases flB with
          | ret r =>
            obtain ⟨rfl, h', tk, c, rfl, R, kp⟩ := hrB
            repeat (any_goals (first | assumption | wp_step))
            exact h _ _ _ R kp
          | _ => exact hrB.elim
    | _ => exact hr.elim
end
end Ev
namespace Ev
open PySem L2
section
variable {X : Cx}
/-- set(xs) of a list of ints -/
theorem cr_setL (hc : X.calm = true) : CallR X (.type "set") (fun vs H Q => ∃ (a : Addr) (ns : List Int), vs = [V.ref a] ∧ SqL X.K H a (ns.map V.int) ∧ ns.length + 1 < scanBound ∧ ∀ p c, H p = none → Q (.ref p) (upd H p (SetO X.w p (fun j => decide (j ∈ ns)) c))) := by
  intro pins s σ H vs us Q I r h
  obtain ⟨a, ns, rfl, hs, hb, q⟩ := h
  obtain ⟨its, rv, hl, _⟩ := I.list hs
  rw [Vals.ref1 r]
  refine call_setL ns (I.ok.hd hc) hl.isList rv.ints hb fun h' tk c R kp => ?_
  exact ⟨.ref _, upd H s.heap.objs.size (SetO X.w s.heap.objs.size (fun j => decide (j ∈ ns)) c), I.laid (t' := tk) kp (Nat.le_refl _) (setO_new R), rfl, q _ _ (I.hok.fresh (Nat.le_refl _))⟩
/-- len of a set of ints -/
theorem cr_lenSet : CallR X (.builtin "len") (fun vs H Q => ∃ (a : Addr) (S : Int → Bool) (n : Nat), vs = [V.ref a] ∧ H a = some (SetO X.w a S n) ∧ n < scanBound ∧ Q (.int n) H) := by
  intro pins s σ H vs us Q I r h
  obtain ⟨a, S, n, rfl, ha, hn, q⟩ := h
  rw [Vals.ref1 r]
  obtain ⟨o, es, ep, t, ho, hex, hd, _, _, _, _, hf, hz, _⟩ := setO_get I ha
  refine call_len_set ho hex hd hf (by rw [hz]; unfold scanBound at hn; omega) ⟨.int n, H, I.tok _, ⟨_, by rw [hz]⟩, q⟩
end
end Ev
set_option maxHeartbeats 4000000
/-! Ev6: built-ins by values; isinstance; slices. -/
namespace Ev
open PySem L2
/-! ### mathematics -/
theorem insI_perm (i : Int) : ∀ l : List Int, (insI i l).Perm (i :: l)
  | [] => List.Perm.refl _
  | j :: r => by
    unfold insI
    by_cases h : i ≤ j
    · rw [if_pos h]
    · rw [if_neg h]
      exact ((insI_perm i r).cons j).trans (List.Perm.swap i j r)
theorem sortI_perm : ∀ l : List Int, (sortI l).Perm l
  | [] => List.Perm.refl _
  | i :: r => (insI_perm i _).trans ((sortI_perm r).cons i)
theorem insI_srt (i : Int) : ∀ l : List Int, l.Pairwise (· ≤ ·) → (insI i l).Pairwise (· ≤ ·)
  | [], _ => by simp [insI]
  | j :: r, h => by
    unfold insI
    have h' := List.pairwise_cons.mp h
    by_cases c : i ≤ j
    · rw [if_pos c]
      refine List.pairwise_cons.mpr ⟨fun k hk => ?_, h⟩
      rcases List.mem_cons.mp hk with rfl | hk
      · exact c
      · exact Int.le_trans c (h'.1 k hk)
    · rw [if_neg c]
      refine List.pairwise_cons.mpr ⟨fun k hk => ?_, insI_srt i r h'.2⟩
      rcases List.mem_cons.mp ((insI_perm i r).mem_iff.mp hk) with rfl | hk
      · omega
      · exact h'.1 k hk
theorem sortI_srt : ∀ l : List Int, (sortI l).Pairwise (· ≤ ·)
  | [] => List.Pairwise.nil
  | i :: r => insI_srt i _ (sortI_srt r)
theorem srt_uniq {l m : List Int} (p : l.Perm m) (h1 : l.Pairwise (· ≤ ·)) (h2 : m.Pairwise (· ≤ ·)) : l = m :=
  p.eq_of_pairwise (fun a b _ _ h h' => Int.le_antisymm h h') h1 h2
theorem sumI_sum : ∀ l : List Int, sumI l = l.sum
  | [] => rfl
  | i :: r => by rw [List.sum_cons, ← sumI_sum r]; rfl
theorem maxI_max : ∀ (l : List Int) (m : Int), (maxI m l = m ∨ maxI m l ∈ l) ∧ m ≤ maxI m l ∧ ∀ y ∈ l, y ≤ maxI m l
  | [], m => ⟨.inl rfl, Int.le_refl _, fun y h => by cases h⟩
  | i :: r, m => by
    obtain ⟨h1, h2, h3⟩ := maxI_max r (if m < i then i else m)
    show (maxI (if m < i then i else m) r = m ∨ maxI (if m < i then i else m) r ∈ i :: r) ∧ m ≤ maxI (if m < i then i else m) r ∧ ∀ y ∈ i :: r, y ≤ maxI (if m < i then i else m) r
    by_cases c : m < i
    · rw [if_pos c] at h1 h2 h3 ⊢
      refine ⟨.inr ?_, by omega, fun y hy => ?_⟩
      · rcases h1 with e | h
        · rw [e]; exact List.mem_cons_self
        · exact List.mem_cons_of_mem _ h
      · rcases List.mem_cons.mp hy with rfl | hy
        · exact h2
        · exact h3 y hy
    · rw [if_neg c] at h1 h2 h3 ⊢
      refine ⟨h1.imp id (List.mem_cons_of_mem _), h2, fun y hy => ?_⟩
      rcases List.mem_cons.mp hy with rfl | hy
      · omega
      · exact h3 y hy
theorem minI_min : ∀ (l : List Int) (m : Int), (minI m l = m ∨ minI m l ∈ l) ∧ minI m l ≤ m ∧ ∀ y ∈ l, minI m l ≤ y
  | [], m => ⟨.inl rfl, Int.le_refl _, fun y h => by cases h⟩
  | i :: r, m => by
    obtain ⟨h1, h2, h3⟩ := minI_min r (if i < m then i else m)
    show (minI (if i < m then i else m) r = m ∨ minI (if i < m then i else m) r ∈ i :: r) ∧ minI (if i < m then i else m) r ≤ m ∧ ∀ y ∈ i :: r, minI (if i < m then i else m) r ≤ y
    by_cases c : i < m
    · rw [if_pos c] at h1 h2 h3 ⊢
      refine ⟨.inr ?_, by omega, fun y hy => ?_⟩
      · rcases h1 with e | h
        · rw [e]; exact List.mem_cons_self
        · exact List.mem_cons_of_mem _ h
      · rcases List.mem_cons.mp hy with rfl | hy
        · exact h2
        · exact h3 y hy
    · rw [if_neg c] at h1 h2 h3 ⊢
      refine ⟨h1.imp id (List.mem_cons_of_mem _), h2, fun y hy => ?_⟩
      rcases List.mem_cons.mp hy with rfl | hy
      · omega
      · exact h3 y hy
theorem max_uniq {l : List Int} {a b : Int} (ha : a ∈ l) (hb : b ∈ l) (h1 : ∀ y ∈ l, y ≤ a) (h2 : ∀ y ∈ l, y ≤ b) : a = b := Int.le_antisymm (h2 a ha) (h1 b hb)
theorem min_uniq {l : List Int} {a b : Int} (ha : a ∈ l) (hb : b ∈ l) (h1 : ∀ y ∈ l, a ≤ y) (h2 : ∀ y ∈ l, b ≤ y) : a = b := Int.le_antisymm (h1 b hb) (h2 a ha)
theorem maxI_mem {i : Int} {r : List Int} : maxI i r ∈ i :: r ∧ ∀ y ∈ i :: r, y ≤ maxI i r := by
  obtain ⟨h1, h2, h3⟩ := maxI_max r i
  refine ⟨?_, fun y hy => ?_⟩
  · rcases h1 with e | h
    · rw [e]; exact List.mem_cons_self
    · exact List.mem_cons_of_mem _ h
  · rcases List.mem_cons.mp hy with rfl | hy
    · exact h2
    · exact h3 y hy
theorem minI_mem {i : Int} {r : List Int} : minI i r ∈ i :: r ∧ ∀ y ∈ i :: r, minI i r ≤ y := by
  obtain ⟨h1, h2, h3⟩ := minI_min r i
  refine ⟨?_, fun y hy => ?_⟩
  · rcases h1 with e | h
    · rw [e]; exact List.mem_cons_self
    · exact List.mem_cons_of_mem _ h
  · rcases List.mem_cons.mp hy with rfl | hy
    · exact h2
    · exact h3 y hy
theorem FzL.of_ints {K : PySem.W.Frag} {H : Hp} {av : Addr → Prop} : ∀ is : List Int, FzL K H av (is.map T.int) (is.map V.int)
  | [] => rfl
  | i :: r => ⟨.int i, r.map V.int, rfl, rfl, FzL.of_ints r⟩
theorem Mk.ints {K : PySem.W.Frag} {H : Hp} {av : Addr → Prop} {p : Addr} (is : List Int) (hp : H p = none) : Mk K H av (.lst (is.map fun i => W.val (.int i))) (.ref p) (upd H p (.lst (is.map V.int))) [p] := by
  have e : is.map (fun i => W.val (.int i)) = (is.map T.int).map W.val := by rw [List.map_map]; rfl
  rw [e]
  exact Mk.fzl hp (FzL.of_ints is)
/-! ### the calls -/
theorem CallR.imp {X : Cx} {f : Value} {r r' : List V → Hp → VK → Prop} (h : CallR X f r) (i : ∀ xs H Q, r' xs H Q → r xs H Q) : CallR X f r' :=
  fun pins s σ H xs us Q I rv q => h pins s σ H xs us Q I rv (i xs H Q q)
section
variable {X : Cx} {H : Hp} {av : Addr → Prop} {K : PySem.W.Frag}
theorem one_of {ts : List T} {t : T} {xs : List V} (h : FzL K H av [t] xs) : ∃ v, xs = [v] ∧ Fz K H av t v := by
  obtain ⟨v, r, rfl, a, b⟩ := h
  cases (show r = [] from b)
  exact ⟨v, rfl, a⟩
theorem two_of {t u : T} {xs : List V} (h : FzL K H av [t, u] xs) : ∃ v w, xs = [v, w] ∧ Fz K H av t v ∧ Fz K H av u w := by
  obtain ⟨v, r, rfl, a, w, r2, rfl, b, c⟩ := h
  cases (show r2 = [] from c)
  exact ⟨v, w, rfl, a, b⟩

theorem ints_sq {ts : List T} {xs : List V} {is : List Int} (e : T.ints ts = some is) (h : FzL K H av ts xs) : xs = is.map V.int := by
  induction ts generalizing xs is with
  | nil =>
    cases e
    exact h
  | cons t ts ih =>
    obtain ⟨v, r, rfl, h1, h2⟩ := h
    cases t with
    | int i =>
      obtain ⟨js, e1, e2⟩ := Option.map_eq_some_iff.mp (show (T.ints ts).map (i :: ·) = some is from e)
      subst e2
      rw [ih e1 h2, show v = .int i from h1]
      rfl
    | _ => cases e
theorem bls_sq {ts : List T} {xs : List V} {is : List Bool} (e : T.bls ts = some is) (h : FzL K H av ts xs) : xs = is.map V.bl := by
  induction ts generalizing xs is with
  | nil =>
    cases e
    exact h
  | cons t ts ih =>
    obtain ⟨v, r, rfl, h1, h2⟩ := h
    cases t with
    | bl i =>
      obtain ⟨js, e1, e2⟩ := Option.map_eq_some_iff.mp (show (T.bls ts).map (i :: ·) = some is from e)
      subst e2
      rw [ih e1 h2, show v = .bl i from h1]
      rfl
    | _ => cases e
theorem bi_len : CallR X (.builtin "len") (rPL X.K lenT) := by
  refine CallR.imp call_len fun xs H Q ⟨av, ts, w, hf, e, q⟩ => ?_
  unfold lenT at e
  split at e
  · cases e
    obtain ⟨v, rfl, a, zs, rfl, ha, _, hl⟩ := one_of (ts := []) hf
    exact ⟨_, _, rfl, .inl ⟨zs, .inl ha, rfl⟩, by rw [← hl.len]; exact q _ _ _ (Mk.int _)⟩
  · cases e
    obtain ⟨v, rfl, a, zs, rfl, ha, hl⟩ := one_of (ts := []) hf
    exact ⟨_, _, rfl, .inr ⟨zs, ha, rfl⟩, by rw [← hl.len]; exact q _ _ _ (Mk.int _)⟩
  · cases e
    obtain ⟨v, rfl, a, rfl, ha⟩ := one_of (ts := []) hf
    exact ⟨_, _, rfl, .inl ⟨_, scr_sq ha, rfl⟩, by rw [List.length_map]; exact q _ _ _ (Mk.int _)⟩
  · rename_i z
    by_cases c : decide (z.length ≤ 16777216) = true
    · rw [if_pos c] at e
      cases e
      obtain ⟨v, rfl, rfl⟩ := one_of (ts := []) hf
      exact ⟨_, _, rfl, ⟨by rw [sizeLine_eq]; exact of_decide_eq_true c, rfl⟩, q _ _ _ (Mk.int _)⟩
    · rw [if_neg c] at e; cases e
  · cases e
theorem bi_list : CallR X (.type "list") (rPL X.K listT) := by
  refine CallR.imp call_list_of fun xs H Q ⟨av, ts, w, hf, e, q⟩ => ?_
  unfold listT at e
  split at e
  · cases e
    obtain ⟨v, rfl, a, zs, rfl, ha, _, hl⟩ := one_of (ts := []) hf
    exact ⟨a, zs, rfl, .inl (.inl ha), fun l hl' => q _ _ _ (Mk.fzl hl' hl)⟩
  · cases e
    obtain ⟨v, rfl, a, zs, rfl, ha, hl⟩ := one_of (ts := []) hf
    exact ⟨a, zs, rfl, .inr ha, fun l hl' => q _ _ _ (Mk.fzl hl' hl)⟩
  · cases e
theorem bi_tuple : CallR X (.type "tuple") (rPL X.K tupleT) := by
  refine CallR.imp call_tuple_of fun xs H Q ⟨av, ts, w, hf, e, q⟩ => ?_
  unfold tupleT at e
  split at e
  · cases e
    obtain ⟨v, rfl, a, zs, rfl, ha, _, hl⟩ := one_of (ts := []) hf
    exact ⟨a, zs, rfl, .inl ⟨.inl ha, fun l hl' => q _ _ _ (Mk.tup hl' hl)⟩⟩
  · cases e
    obtain ⟨v, rfl, a, zs, rfl, ha, hl⟩ := one_of (ts := []) hf
    exact ⟨a, zs, rfl, .inr ⟨ha, q _ _ _ (Mk.same ⟨a, zs, rfl, ha, hl⟩)⟩⟩
  · cases e
theorem bi_sorted : CallR X (.builtin "sorted") (rPL X.K sortedT) := by
  refine CallR.imp cr_sortedI fun xs H Q ⟨av, ts, w, hf, e, q⟩ => ?_
  unfold sortedT at e
  split at e
  · obtain ⟨is, e1, e2⟩ := Option.map_eq_some_iff.mp e
    subst e2
    obtain ⟨v, rfl, a, zs, rfl, ha, _, hl⟩ := one_of (ts := []) hf
    have ez := ints_sq e1 hl
    subst ez
    refine ⟨a, is, rfl, .inl ha, fun ns' p pm ps hp => ?_⟩
    rw [srt_uniq (pm.trans (sortI_perm is).symm) ps (sortI_srt is)]
    exact q _ _ _ (Mk.ints _ hp)
  · cases e
theorem bi_int : CallR X (.type "int") (rPL X.K intT) := by
  refine CallR.imp call_int1 fun xs H Q ⟨av, ts, w, hf, e, q⟩ => ?_
  unfold intT at e
  split at e
  · cases e
    obtain ⟨v, rfl, rfl⟩ := one_of (ts := []) hf
    exact .inl ⟨_, rfl, q _ _ _ (Mk.int _)⟩
  · cases e
    obtain ⟨v, rfl, rfl⟩ := one_of (ts := []) hf
    exact .inr ⟨_, rfl, q _ _ _ (Mk.int _)⟩
  · cases e
theorem bi_sum (hc : X.calm = true) : CallR X (.builtin "sum") (rPL X.K sumT) := by
  refine CallR.imp (cr_sum hc) fun xs H Q ⟨av, ts, w, hf, e, q⟩ => ?_
  unfold sumT at e
  split at e
  · obtain ⟨is, e1, e2⟩ := Option.map_eq_some_iff.mp e
    subst e2
    obtain ⟨v, rfl, a, zs, rfl, ha, _, hl⟩ := one_of (ts := []) hf
    have ez := ints_sq e1 hl
    subst ez
    refine ⟨a, is, rfl, .inl ha, ?_⟩
    rw [← sumI_sum]
    exact q _ _ _ (Mk.int _)
  · cases e
theorem bi_all (hc : X.calm = true) : CallR X (.builtin "all") (rPL X.K allT) := by
  refine CallR.imp (cr_all hc) fun xs H Q ⟨av, ts, w, hf, e, q⟩ => ?_
  unfold allT at e
  split at e
  · obtain ⟨is, e1, e2⟩ := Option.map_eq_some_iff.mp e
    subst e2
    obtain ⟨v, rfl, a, zs, rfl, ha, _, hl⟩ := one_of (ts := []) hf
    have ez := bls_sq e1 hl
    subst ez
    exact ⟨a, is, rfl, .inl ha, q _ _ _ (Mk.bl _)⟩
  · cases e
theorem bi_any (hc : X.calm = true) : CallR X (.builtin "any") (rPL X.K anyT) := by
  refine CallR.imp (cr_any hc) fun xs H Q ⟨av, ts, w, hf, e, q⟩ => ?_
  unfold anyT at e
  split at e
  · obtain ⟨is, e1, e2⟩ := Option.map_eq_some_iff.mp e
    subst e2
    obtain ⟨v, rfl, a, zs, rfl, ha, _, hl⟩ := one_of (ts := []) hf
    have ez := bls_sq e1 hl
    subst ez
    exact ⟨a, is, rfl, .inl ha, q _ _ _ (Mk.bl _)⟩
  · cases e
theorem CallR.or {f : Value} {r r' : List V → Hp → VK → Prop} (h : CallR X f r) (h' : CallR X f r') : CallR X f fun xs H Q => r xs H Q ∨ r' xs H Q :=
  fun pins s σ H xs us Q I rv q => q.elim (h pins s σ H xs us Q I rv) (h' pins s σ H xs us Q I rv)
theorem bi_min (hc : X.calm = true) : CallR X (.builtin "min") (rPL X.K minT) := by
  refine CallR.imp (CallR.or (call_min2 hc) (cr_min hc)) fun xs H Q ⟨av, ts, w, hf, e, q⟩ => ?_
  unfold minT at e
  split at e
  · cases e
    obtain ⟨v, u, rfl, rfl, rfl⟩ := two_of hf
    exact .inl ⟨_, _, rfl, q _ _ _ (Mk.int _)⟩
  · obtain ⟨is, e1, e2⟩ := Option.bind_eq_some_iff.mp e
    obtain ⟨v, rfl, a, zs, rfl, ha, _, hl⟩ := one_of (ts := []) hf
    have ez := ints_sq e1 hl
    subst ez
    cases is with
    | nil => cases e2
    | cons i r =>
      cases e2
      refine .inr ⟨a, i :: r, rfl, .inl ha, Nat.succ_pos _, fun m h1 h2 => ?_⟩
      rw [min_uniq h1 minI_mem.1 h2 minI_mem.2]
      exact q _ _ _ (Mk.int _)
  · cases e
theorem bi_max (hc : X.calm = true) : CallR X (.builtin "max") (rPL X.K maxT) := by
  refine CallR.imp (CallR.or (call_max2 hc) (cr_max hc)) fun xs H Q ⟨av, ts, w, hf, e, q⟩ => ?_
  unfold maxT at e
  split at e
  · cases e
    obtain ⟨v, u, rfl, rfl, rfl⟩ := two_of hf
    exact .inl ⟨_, _, rfl, q _ _ _ (Mk.int _)⟩
  · obtain ⟨is, e1, e2⟩ := Option.bind_eq_some_iff.mp e
    obtain ⟨v, rfl, a, zs, rfl, ha, _, hl⟩ := one_of (ts := []) hf
    have ez := ints_sq e1 hl
    subst ez
    cases is with
    | nil => cases e2
    | cons i r =>
      cases e2
      refine .inr ⟨a, i :: r, rfl, .inl ha, Nat.succ_pos _, fun m h1 h2 => ?_⟩
      rw [max_uniq h1 maxI_mem.1 h2 maxI_mem.2]
      exact q _ _ _ (Mk.int _)
  · cases e
end
/-! ### isinstance -/
def Ty.nm : Ty → String
  | .int => "int"
  | .bool => "bool"
  | .str => "str"
  | .non => "NoneType"
  | .list => "list"
  | .tuple => "tuple"
theorem tyX_of {K : PySem.W.Frag} {H : Hp} {av : Addr → Prop} {t : T} {v : V} {y : Ty} (h : Fz K H av t v) (e : tyT t = some y) : TyX K H v (.type y.nm) := by
  cases t with
  | non => cases e; cases (show v = _ from h); exact .base .non
  | bl b => cases e; cases (show v = _ from h); exact .base (.bl b)
  | int b => cases e; cases (show v = _ from h); exact .base (.int b)
  | str b => cases e; cases (show v = _ from h); exact .base (.str b)
  | lst ts =>
    cases e
    obtain ⟨a, xs, rfl, ha, _⟩ := h
    rcases ha with ha | ⟨o, ha⟩
    · exact .base (.lst ha)
    · exact .base (.frz ha)
  | tup ts =>
    cases e
    obtain ⟨a, xs, rfl, ha, _⟩ := h
    rcases ha with (ha | ⟨o, ha⟩) | ⟨o, its, n, hk, hc, _⟩
    · exact .base (.tup ha)
    · exact .fTuple ha
    · exact .kTuple hk hc
  | _ => cases e
theorem kit_sub (K : PySem.W.Frag) : ∀ y c : Ty, c ≠ .non → PySem.W.kitOne K (.type y.nm) (.type c.nm) = some (y.sub c) := by
  intro y c hc
  refine kit_ty ?_
  cases y <;> cases c <;> first | decide +kernel | exact absurd rfl hc
theorem kit_subs (K : PySem.W.Frag) (y : Ty) : ∀ cs : List Ty, (∀ c ∈ cs, c ≠ .non) → PySem.W.kitAny K (.type y.nm) (cs.map fun c => .type c.nm) = some (cs.any y.sub)
  | [], _ => kitAny_nil
  | c :: cs, h => by
    refine kitAny_cons (kit_sub K y c (h c List.mem_cons_self)) (fun e => ?_) fun e => ?_
    · rw [kit_subs K y cs fun d hd => h d (List.mem_cons_of_mem _ hd), List.any_cons, e]
      rfl
    · rw [List.any_cons, e]
      rfl
section
variable {X : Cx} {g : Cfg} {pos p0 : Pos} {a b c : Expr} {ia ib ic : E}
theorem snd_isi {y : Ty} {px : Pos} {x : Str} (hy : y ≠ .non) (hg : Gl X "isinstance") (hm : X.mg "isinstance" = none) (hgx : Gl X x) (hmx : X.mg x = none) (hbx : bootBuiltins x = some (.type y.nm)) (hdx : (x == ("__debug__" : Str)) = false) (hnx : x ≠ "__name__")
    (ha : PE X a (tE X.K g ia)) (hs : starEach [a, .Name x px] X.env = (false, eval a X.env) :: starEach [.Name x px] X.env) : PE X (.Call (.Name "isinstance" p0) [a, .Name x px] [] pos) (tE X.K g (.isi ia y)) :=
  PE.imp (pe_callB (t := tCons (tE X.K g ia) (tCons (tC (.ty y.nm)) tNil)) call_isi hg hm rfl (pa_cons ha (pa_cons (pe_bltn hgx hmx hbx rfl hnx hdx) pa_nil rfl) hs) (by decide) (by decide) hs rfl) fun σ H Q ⟨Rt, env, A, rl, p⟩ => by
    refine ⟨Rt, env, A, rl, Post.seq p fun x e1 v H1 A1 B1 s1 o1 p1 => ?_⟩
    obtain ⟨w, ew, p2⟩ := Post.of p1
    obtain ⟨k, ek, e2⟩ := Option.map_eq_some_iff.mp ew
    subst e2
    obtain ⟨z, ez, e3⟩ := Option.map_eq_some_iff.mp (show (tyT x.fz).map (fun y' => [y].any y'.sub) = some k from ek)
    refine ⟨v, .ty y.nm, .type z.nm, .type y.nm, z.sub y, rfl, .ty _, tyX_of (s1.fz0 o1) ez, kit_sub _ z y hy, ?_⟩
    have : k = z.sub y := by rw [← e3]; exact Bool.or_false _
    rw [← this]
    exact p2 (.bl k) H1 A1 [] s1.drop0 ⟨rfl, rfl⟩
end
end Ev
set_option maxHeartbeats 4000000
/-! Ev12: constants of the module, isinstance of several classes, slices, lists of ranges, sets that are read at once. -/
namespace Ev
open PySem L2
section
variable {X : Cx} {g : Cfg} {pos p0 : Pos} {a b c : Expr} {ia ib ic : E}
theorem snd_cst {n : Nat} {t : T} {v : V} {u : Value} {x : Str} (hG : g.G n = some t) (hv : ∀ H av, Fz X.K H av t v) (hg : Gl X x) (hm : X.mg x = some u) (r : RelV v u) (hd : (x == ("__debug__" : Str)) = false) : PE X (.Name x pos) (tE X.K g (.cst n)) :=
  PE.imp (pe_glob hg hm r hd) fun σ H Q ⟨Rt, env, A, rl, p⟩ => by
    have p' : Post X.K g (PO1 X.K) Rt σ H A (R.of ((g.G n).map .val) env) Q := p
    rw [hG] at p'
    exact p' v H A [] rl.sx ⟨rfl, hv _ _⟩
theorem snd_isis2 {y z : Ty} {px py pt : Pos} {x x' : Str} {kt : Nat} (hy : y ≠ .non) (hz : z ≠ .non) (hg : Gl X "isinstance") (hm : X.mg "isinstance" = none) (hgx : Gl X x) (hmx : X.mg x = none) (hbx : bootBuiltins x = some (.type y.nm)) (hdx : (x == ("__debug__" : Str)) = false) (hnx : x ≠ "__name__")
    (hgy : Gl X x') (hmy : X.mg x' = none) (hby : bootBuiltins x' = some (.type z.nm)) (hdy : (x' == ("__debug__" : Str)) = false) (hny : x' ≠ "__name__")
    (ha : PE X a (tE X.K g ia)) (hs : starEach [a, .Tuple [.Name x px, .Name x' py] kt pt] X.env = (false, eval a X.env) :: starEach [.Tuple [.Name x px, .Name x' py] kt pt] X.env) :
    PE X (.Call (.Name "isinstance" p0) [a, .Tuple [.Name x px, .Name x' py] kt pt] [] pos) (tE X.K g (.isis ia [y, z])) :=
  PE.imp (pe_callB (t := tCons (tE X.K g ia) (tCons (tTup (tCons (tC (.ty y.nm)) (tCons (tC (.ty z.nm)) tNil))) tNil)) call_isiT hg hm rfl
      (pa_cons ha (pa_cons (pe_tup (pa_cons (pe_bltn hgx hmx hbx rfl hnx hdx) (pa_cons (pe_bltn hgy hmy hby rfl hny hdy) pa_nil rfl) rfl)) pa_nil rfl) hs) (by decide) (by decide) hs rfl) fun σ H Q ⟨Rt, env, A, rl, p⟩ => by
    refine ⟨Rt, env, A, rl, Post.seq p fun x e1 v H1 A1 B1 s1 o1 p1 => ?_⟩
    obtain ⟨w, ew, p2⟩ := Post.of p1
    obtain ⟨k, ek, e2⟩ := Option.map_eq_some_iff.mp ew
    subst e2
    obtain ⟨q, ez, e3⟩ := Option.map_eq_some_iff.mp (show (tyT x.fz).map (fun y' => [y, z].any y'.sub) = some k from ek)
    refine ⟨by rw [sizeLine_eq]; exact (by decide : 2 ≤ 16777216), fun t ht => ?_⟩
    have s2 := s1.drop0.new (o := .tup [.ty y.nm, .ty z.nm]) ht
    have fz := s1.fz0 o1
    have fz2 : Fz X.K (upd H1 t (.tup [.ty y.nm, .ty z.nm])) (Av (A1 ++ []) Rt) x.fz v := Fz.mono (fun b o q _ => newkeep ht b o q) (newtups ht) (fun b z => .inl z) _ _ fz
    refine ⟨v, t, [.ty y.nm, .ty z.nm], .type q.nm, [.type y.nm, .type z.nm], k, rfl, upd_same, .cons (.ty _) (.cons (.ty _) .nil), tyX_of fz2 ez, ?_, p2 (.bl k) _ A1 [] s2.drop0 ⟨rfl, rfl⟩⟩
    rw [← e3]
    exact kit_subs X.K q [y, z] fun c hc => by
      rcases List.mem_cons.mp hc with rfl | hc
      · exact hy
      · rcases List.mem_cons.mp hc with rfl | hc
        · exact hz
        · cases hc
/-! ### slices -/
theorem PO.imp {e : Option Expr} {t t' : TO} (h : PO X e t) (i : ∀ σ H Q, t' σ H Q → t σ H Q) : PO X e t' := ⟨fun pins s σ H Q I q => h.run pins s σ H Q I (i σ H Q q)⟩
theorem sno_none : PO X none (tO X.K g .no) := PO.imp po_none fun σ H Q ⟨Rt, env, A, rl, p⟩ => p none H A [] rl.sx ⟨rfl, rfl⟩
theorem sno_some (ha : PE X a (tE X.K g ia)) : PO X (some a) (tO X.K g (.so ia)) :=
  PO.imp (po_some ha) fun σ H Q ⟨Rt, env, A, rl, p⟩ => by
    refine ⟨Rt, env, A, rl, Post.seq p fun x e1 v H1 A1 B1 s1 o1 p1 => ?_⟩
    cases e : x.fz with
    | int i =>
      simp only [e] at p1
      exact ⟨i, fz_int e o1, p1 (some i) H1 A1 [] s1.drop0 ⟨rfl, rfl⟩⟩
    | _ => simp only [e] at p1; exact p1.elim
theorem FzL.cut {K : PySem.W.Frag} {H : Hp} {av : Addr → Prop} {ts : List T} {xs : List V} (h : FzL K H av ts xs) (n m : Nat) : FzL K H av ((ts.drop n).take m) ((xs.drop n).take m) := by
  have drp : ∀ (n : Nat) (ts : List T) (xs : List V), FzL K H av ts xs → FzL K H av (ts.drop n) (xs.drop n) := by
    intro n
    induction n with
    | zero => exact fun _ _ h => h
    | succ n ih =>
      intro ts xs h
      cases ts with
      | nil => cases (show xs = [] from h); exact h
      | cons t ts =>
        obtain ⟨v, r, rfl, _, h2⟩ := h
        exact ih ts r h2
  have tk : ∀ (m : Nat) (ts : List T) (xs : List V), FzL K H av ts xs → FzL K H av (ts.take m) (xs.take m) := by
    intro m
    induction m with
    | zero => exact fun _ _ h => rfl
    | succ m ih =>
      intro ts xs h
      cases ts with
      | nil => cases (show xs = [] from h); exact h
      | cons t ts =>
        obtain ⟨v, r, rfl, h1, h2⟩ := h
        exact ⟨v, r.take m, rfl, h1, ih ts r h2⟩
  exact tk m _ _ (drp n _ _ h)
theorem FzL.rev {K : PySem.W.Frag} {H : Hp} {av : Addr → Prop} : ∀ {ts : List T} {xs : List V}, FzL K H av ts xs → FzL K H av ts.reverse xs.reverse
  | [], xs, h => by cases (show xs = [] from h); exact rfl
  | t :: ts, xs, h => by
    obtain ⟨v, r, rfl, h1, h2⟩ := h
    rw [List.reverse_cons, List.reverse_cons]
    exact FzL.append (FzL.rev h2) ⟨v, [], rfl, h1, rfl⟩
theorem snd_sl {lo hi : Option Expr} {il ih : Eo} {p2 : Pos} (ha : PE X a (tE X.K g ia)) (hl : PO X lo (tO X.K g il)) (hh : PO X hi (tO X.K g ih)) : PE X (.Subscript a (.Slice lo hi none p2) pos) (tE X.K g (.sl ia il ih)) :=
  PE.imp (pe_slice sl_list ha hl hh) fun σ H Q ⟨Rt, env, A, rl, p⟩ => by
    refine ⟨Rt, env, A, rl, Post.seq p fun x e1 v H1 A1 B1 s1 o1 p1 => ?_⟩
    refine ⟨RtB B1 Rt, e1, A1, s1.rl, Post.seq2 s1 p1 fun l e2 l' H2 A2 B2 s2 o2 p2 => ?_⟩
    obtain ⟨rfl, rfl⟩ := o2
    have s12 := s1.next s2
    have w1 := s1.own s2 o1
    rw [List.append_nil] at s12 w1
    refine ⟨RtB B1 Rt, e2, A2, s12.rl, Post.seq2 s12 p2 fun h e3 h' H3 A3 B3 s3 o3 p3 => ?_⟩
    obtain ⟨rfl, rfl⟩ := o3
    have s13 := s12.next s3
    have w3 := s12.own s3 w1
    rw [List.append_nil] at s13 w3
    obtain ⟨w, ew, p4⟩ := Post.of p3
    have fz := s13.fz0 w3
    cases e : x.fz with
    | lst ts =>
      rw [e] at ew fz
      cases ew
      obtain ⟨q, xs, rfl, hq, _, hl⟩ := fz
      refine ⟨q, xs, rfl, .inl hq, fun p hp => ?_⟩
      have fc : FzL X.K H3 (Av (A3 ++ []) Rt) (cutT ts l' h') (cutV xs l' h') := by
        unfold cutT cutV
        rw [hl.len]
        exact hl.cut _ _
      obtain ⟨s4, o4⟩ := s13.made (Mk.fzl hp fc)
      exact p4 _ _ A3 _ s4 o4
    | _ => rw [e] at ew; cases ew
theorem snd_rev {k : Nat} {p1 p2 p3 : Pos} (ha : PE X a (tE X.K g ia)) : PE X (.Subscript a (.Slice none none (some (.UnaryOp .USub (.Constant (.int 1) k p1) p2)) p3) pos) (tE X.K g (.rev ia)) :=
  PE.imp (pe_revL ha) fun σ H Q ⟨Rt, env, A, rl, p⟩ => by
    refine ⟨Rt, env, A, rl, Post.seq p fun x e1 v H1 A1 B1 s1 o1 p1 => ?_⟩
    obtain ⟨w, ew, p4⟩ := Post.of p1
    have fz := s1.fz0 o1
    cases e : x.fz with
    | lst ts =>
      rw [e] at ew fz
      cases ew
      obtain ⟨q, xs, rfl, hq, _, hl⟩ := fz
      refine ⟨q, xs, rfl, .inl hq, fun p hp => ?_⟩
      obtain ⟨s4, o4⟩ := s1.made (Mk.fzl hp hl.rev)
      exact p4 _ _ A1 _ s4 o4
    | _ => rw [e] at ew; cases ew
/-! ### lists of ranges -/
theorem rgV_rngI (a : Int) (n : Nat) : (List.range n).map (fun i => V.int (a + (i : Nat))) = (rngI a n).map V.int := by
  induction n generalizing a with
  | zero => rfl
  | succ n ih =>
    rw [List.range_succ_eq_map, List.map_cons, List.map_map]
    show _ = V.int a :: (rngI (a + 1) n).map V.int
    rw [← ih (a + 1)]
    congr 1
    · simp
    · refine List.map_congr_left fun i _ => ?_
      show V.int (a + ((i + 1 : Nat) : Int)) = V.int (a + 1 + (i : Nat))
      congr 1
      omega
theorem snd_lrng1 {pr pl : Pos} (hc : X.calm = true) (hgl : Gl X "list") (hml : X.mg "list" = none) (hgr : Gl X "range") (hmr : X.mg "range" = none) (ha : PE X a (tE X.K g ia)) (hs : starEach [a] X.env = (false, eval a X.env) :: starEach [] X.env)
    : PE X (.Call (.Name "list" pl) [.Call (.Name "range" pr) [a] [] p0] [] pos) (tE X.K g (.lrng ia .no)) :=
  PE.imp (pe_listRg hc hgl hml (prg_1 hgr hmr ha hs) rfl) fun σ H Q ⟨Rt, env, A, rl, p⟩ => by
    refine ⟨Rt, env, A, rl, Post.seq p fun x e1 v H1 A1 B1 s1 o1 p1 => ?_⟩
    have p1' : Post X.K g (PO1 X.K) Rt σ H A (R.of ((rngT x.fz none).map fun is => .lst (is.map fun i => .val (.int i))) e1) Q := p1
    obtain ⟨w, ew, p4⟩ := Post.of p1'
    obtain ⟨is, ei, e2⟩ := Option.map_eq_some_iff.mp ew
    subst e2
    cases e : x.fz with
    | int n =>
      rw [e] at ei
      have ei' : (if okR n = true then some (rngI 0 n.toNat) else none) = some is := ei
      by_cases c : okR n = true
      · rw [if_pos c] at ei'
        cases ei'
        have c' := okR_of c
        refine ⟨n, fz_int e o1, ⟨by omega, by omega, by omega, by omega, by omega⟩, fun q hq => ?_⟩
        have er : rgV 0 n = (rngI 0 n.toNat).map V.int := by
          unfold rgV
          rw [Int.sub_zero]
          exact rgV_rngI 0 n.toNat
        rw [er]
        obtain ⟨s4, o4⟩ := s1.made (Mk.ints (rngI 0 n.toNat) hq)
        exact p4 _ _ A1 _ s4 o4
      · rw [if_neg c] at ei'; cases ei'
    | _ => rw [e] at ei; cases ei
theorem snd_lrng2 {pr pl : Pos} (hc : X.calm = true) (hgl : Gl X "list") (hml : X.mg "list" = none) (hgr : Gl X "range") (hmr : X.mg "range" = none) (ha : PE X a (tE X.K g ia)) (hb : PE X b (tE X.K g ib)) (hs : starEach [a, b] X.env = (false, eval a X.env) :: starEach [b] X.env) (hs2 : starEach [b] X.env = (false, eval b X.env) :: starEach [] X.env)
    : PE X (.Call (.Name "list" pl) [.Call (.Name "range" pr) [a, b] [] p0] [] pos) (tE X.K g (.lrng ia (.so ib))) :=
  PE.imp (pe_listRg hc hgl hml (prg_2 hgr hmr ha hb hs hs2 (by rw [hs2]; rfl)) rfl) fun σ H Q ⟨Rt, env, A, rl, p⟩ => by
    refine ⟨Rt, env, A, rl, Post.seq p fun x e1 v H1 A1 B1 s1 o1 p1 => ?_⟩
    have p1' : Post X.K g (PO1 X.K) Rt σ H A ((evE g.G g.C ib e1).bind fun w env1 => (match w.fz with | .int i => R.ok (some i) env1 | _ => .no).bind fun (y : Option Int) env2 => R.of ((rngT x.fz y).map fun (is : List Int) => .lst (is.map fun i => .val (.int i))) env2) Q := by
      have : Post X.K g (PO1 X.K) Rt σ H A (((evE g.G g.C ib e1).bind fun w env1 => (match w.fz with | .int i => R.ok (some i) env1 | _ => .no)).bind fun (y : Option Int) env2 => R.of ((rngT x.fz y).map fun (is : List Int) => .lst (is.map fun i => .val (.int i))) env2) Q := p1
      cases er : evE g.G g.C ib e1 with
      | ok w e2 => rw [er] at this; exact this
      | exc c t e2 => rw [er] at this; exact this
      | no => rw [er] at this; exact this
    refine ⟨RtB B1 Rt, e1, A1, s1.rl, Post.seq2 s1 p1' fun y e2 v2 H2 A2 B2 s2 o2 p2 => ?_⟩
    have s3 := s1.next s2
    cases ey : y.fz with
    | int j =>
      simp only [ey] at p2
      have p2' : Post X.K g (PO1 X.K) Rt σ H A (R.of ((rngT x.fz (some j)).map fun is => .lst (is.map fun i => .val (.int i))) e2) Q := p2
      obtain ⟨w, ew, p4⟩ := Post.of p2'
      obtain ⟨is, ei, e4⟩ := Option.map_eq_some_iff.mp ew
      subst e4
      cases e : x.fz with
      | int n =>
        rw [e] at ei
        have ei' : (if (okR n && okR j) = true then some (rngI n (j - n).toNat) else none) = some is := ei
        by_cases c : (okR n && okR j) = true
        · rw [if_pos c] at ei'
          cases ei'
          rw [Bool.and_eq_true] at c
          have c1 := okR_of c.1
          have c2 := okR_of c.2
          refine ⟨n, j, fz_int e o1, fz_int ey o2, ⟨by omega, by omega, by omega, by omega, by omega⟩, fun q hq => ?_⟩
          have er : rgV n j = (rngI n (j - n).toNat).map V.int := rgV_rngI n _
          rw [er]
          obtain ⟨s4, o4⟩ := s3.made (Mk.ints (rngI n (j - n).toNat) hq)
          exact p4 _ _ A2 _ s4 o4
        · rw [if_neg c] at ei'; cases ei'
      | _ => rw [e] at ei; cases ei
    | _ => simp only [ey] at p2; exact p2.elim
end
end Ev
set_option maxHeartbeats 4000000
/-! Ev13: items of owned lists; len and sorted of sets. -/
namespace Ev
open PySem L2
section
variable {X : Cx} {g : Cfg} {pos p0 : Pos} {a b c : Expr} {ia ib ic : E}
theorem IxR.imp {r r' : R2} (h : IxR X r) (i : ∀ x y H Q, r' x y H Q → r x y H Q) : IxR X r' :=
  fun value slice pins s σ H x y v u Q I rx ry q hs => h value slice pins s σ H x y v u Q I rx ry (i x y H Q q) hs
theorem OwnL.get {K : PySem.W.Frag} {H : Hp} {av : Addr → Prop} : ∀ {ws : List W} {xs : List V} {D : List Addr} {n : Nat} {t : T}, OwnL K H av ws xs D → ws[n]? = some (.val t) → ∃ v, xs[n]? = some v ∧ Fz K H av t v
  | [], _, _, _, _, _, e => by simp at e
  | w :: ws, xs, D, 0, t, h, e => by
    obtain ⟨v, r, B1, B2, rfl, rfl, h1, h2⟩ := h
    have e' : w = .val t := by simpa using e
    subst e'
    exact ⟨v, rfl, h1.2⟩
  | w :: ws, xs, D, n + 1, t, h, e => by
    obtain ⟨v, r, B1, B2, rfl, rfl, h1, h2⟩ := h
    obtain ⟨z, e1, e2⟩ := OwnL.get (n := n) h2 (by simpa using e)
    exact ⟨z, by simpa using e1, e2⟩
theorem snd_rdx {i : Nat} {x : Str} (hN : X.N[i]? = some x) (hv : Vis X.env.scope x) (hd : (x == ("__debug__" : Str)) = false) (hcd : (x == ("__classdict__" : Str)) = false) (hb : PE X b (tE X.K g ib)) (hs : PlainIx b) : PE X (.Subscript (.Name x p0) b pos) (tE X.K g (.rdx i ib)) :=
  PE.imp (pe_ix (L2.IxR.or ix_all ix_list) (pe_var hN hv hd hcd) hb hs) fun σ H Q ⟨Rt, env, A, rl, p⟩ => by
    have p' : Post X.K g (PO1 X.K) Rt σ H A (match env[i]? with
      | some (some _) => (evE g.G g.C ib env).bind fun k env1 => (match env1[i]? with
        | some (some (.val a)) => R.of ((ixT a k.fz).map .val) env1
        | some (some (.lst ws)) => (match k.fz with
          | .int j => (match atI ws j with
            | some (.val t) => .ok (.val t) env1
            | _ => .no)
          | _ => .no)
        | _ => .no)
      | _ => .no) Q := p
    cases e : env[i]? with
    | none => rw [e] at p'; exact p'.elim
    | some o =>
    cases o with
    | none => rw [e] at p'; exact p'.elim
    | some w0 =>
      rw [e] at p'
      obtain ⟨_, _, _, _, _, hw, _⟩ := RE.slot env σ A i rl.re (List.getElem?_eq_some_iff.mp e).1
      obtain ⟨v, ev, _⟩ := hw w0 e
      refine ⟨v, ev, Rt, env, A, rl, Post.seq p' fun k e1 u H1 A1 B1 s1 o1 p1 => ?_⟩
      have p2 : Post X.K g (PO1 X.K) Rt σ H A (match e1[i]? with
        | some (some (.val a)) => R.of ((ixT a k.fz).map .val) e1
        | some (some (.lst ws)) => (match k.fz with
          | .int j => (match atI ws j with
            | some (.val t) => .ok (.val t) e1
            | _ => .no)
          | _ => .no)
        | _ => .no) Q := p1
      have s0 := s1.drop0
      cases e2 : e1[i]? with
      | none => rw [e2] at p2; exact p2.elim
      | some o =>
      cases o with
      | none => rw [e2] at p2; exact p2.elim
      | some w1 =>
      obtain ⟨_, D, _, eA, _, hw1, _⟩ := RE.slot e1 σ A1 i s0.re (List.getElem?_eq_some_iff.mp e2).1
      obtain ⟨v1, ev1, ow1⟩ := hw1 w1 e2
      rw [ev] at ev1
      cases ev1
      cases w1 with
      | set t => rw [e2] at p2; exact p2.elim
      | val t =>
        rw [e2] at p2
        obtain ⟨w, ew, p3⟩ := Post.of p2
        refine .inl ⟨_, t, k.fz, w, ow1.2, s1.fz0 o1, ew, fun z H' B mk => ?_⟩
        obtain ⟨s4, o4⟩ := s0.made mk
        exact p3 z H' A1 B s4 o4
      | lst ws =>
        rw [e2] at p2
        cases ek : k.fz with
        | int j =>
          simp only [ek] at p2
          cases ea : atI ws j with
          | none => simp only [ea] at p2; exact p2.elim
          | some w2 =>
            cases w2 with
            | val t =>
              simp only [ea] at p2
              obtain ⟨q, xs, D', rfl, rfl, hq, hl⟩ := ow1
              unfold atI at ea
              cases en : L2.ixN ws.length j with
              | none => rw [en] at ea; cases ea
              | some n =>
                rw [en] at ea
                obtain ⟨z, ez, fz⟩ := OwnL.get hl ea
                refine .inr ⟨q, xs, j, z, rfl, fz_int ek o1, SqL.of hq, ?_, p2 z H1 A1 [] s0 ⟨rfl, fz⟩⟩
                unfold atI
                rw [← OwnL.len _ _ _ hl, en]
                exact ez
            | lst _ => simp only [ea] at p2; exact p2.elim
            | set _ => simp only [ea] at p2; exact p2.elim
        | _ => simp only [ek] at p2; exact p2.elim
end
/-! ### sets of ints -/
theorem addI_mem {acc : List Int} {k j : Int} : j ∈ addI acc k ↔ j ∈ acc ∨ j = k := by
  unfold addI
  by_cases c : acc.contains k = true
  · rw [if_pos c]
    exact ⟨.inl, fun h => h.elim id fun e => e ▸ List.contains_iff_mem.mp c⟩
  · rw [if_neg c, List.mem_append, List.mem_singleton]
theorem SetIs.add {S : Int → Bool} {n : Nat} {is : List Int} (h : SetIs S n is) (k : Int) : SetIs (fun j => S j || decide (j = k)) (if S k = true then n else n + 1) (addI is k) := by
  have hk : S k = true ↔ is.contains k = true := (h.mem k).trans List.contains_iff_mem.symm
  refine ⟨fun j => ?_, ?_, ?_⟩
  · rw [addI_mem, Bool.or_eq_true, decide_eq_true_eq, h.mem j]
  · unfold addI
    by_cases c : is.contains k = true
    · rw [if_pos c]; exact h.nd
    · rw [if_neg c]
      refine List.nodup_append.mpr ⟨h.nd, List.nodup_cons.mpr ⟨fun z => (by cases z), List.nodup_nil⟩, fun a ha b hb e => c ?_⟩
      rw [List.mem_singleton.mp hb] at e
      exact List.contains_iff_mem.mpr (e ▸ ha)
  · unfold addI
    by_cases c : is.contains k = true
    · rw [if_pos c, if_pos (hk.mpr c)]; exact h.len
    · rw [if_neg c, if_neg (fun z => c (hk.mp z)), List.length_append, h.len]; rfl
theorem SetIs.nil : SetIs (fun _ => false) 0 [] := ⟨fun i => by simp, List.nodup_nil, rfl⟩
theorem dedI_is : ∀ (ns acc : List Int) (S : Int → Bool) (n : Nat), SetIs S n acc → ∃ S' n', SetIs S' n' (dedI acc ns) ∧ ∀ j, S' j = true ↔ (S j = true ∨ j ∈ ns)
  | [], acc, S, n, h => ⟨S, n, h, fun j => ⟨.inl, fun z => z.elim id fun z => by cases z⟩⟩
  | i :: r, acc, S, n, h => by
    obtain ⟨S', n', h1, h2⟩ := dedI_is r _ _ _ (h.add i)
    refine ⟨S', n', h1, fun j => ?_⟩
    rw [h2 j, Bool.or_eq_true, decide_eq_true_eq, List.mem_cons]
    constructor
    · rintro ((z | z) | z)
      · exact .inl z
      · exact .inr (.inl z)
      · exact .inr (.inr z)
    · rintro (z | z | z)
      · exact .inl (.inl z)
      · exact .inl (.inr z)
      · exact .inr z
theorem nodup_len {l m : List Int} (hl : l.Nodup) (hm : m.Nodup) (h : ∀ j, j ∈ l ↔ j ∈ m) : l.length = m.length := by
  refine List.Perm.length_eq ?_
  rw [List.perm_iff_count]
  intro a
  have h1 := List.nodup_iff_count.mp hl a
  have h2 := List.nodup_iff_count.mp hm a
  by_cases c : a ∈ l
  · have := List.count_pos_iff.mpr c
    have := List.count_pos_iff.mpr ((h a).mp c)
    omega
  · rw [List.count_eq_zero.mpr c, List.count_eq_zero.mpr fun z => c ((h a).mpr z)]
theorem setR_is {w : World} {h : Heap} {p : Addr} {ns : List Int} {c : Nat} (R : SetR w h p (fun j => decide (j ∈ ns)) c) : SetIs (fun j => decide (j ∈ ns)) c (dedI [] ns) := by
  obtain ⟨S', n', h1, h2⟩ := dedI_is ns [] _ 0 SetIs.nil
  obtain ⟨o, es, ep, t, _, _, _, _, nd, mem, _, _, sz, _⟩ := R
  have mm : ∀ j, j ∈ dedI [] ns ↔ j ∈ ns := fun j => by
    rw [← h1.mem j, h2 j]
    exact ⟨fun z => z.elim (fun z => by cases z) id, .inr⟩
  refine ⟨fun j => by rw [decide_eq_true_eq, mm j], h1.nd, ?_⟩
  rw [← sz]
  have e : es.size = (es.toList.map keyOf).length := by rw [List.length_map, Array.length_toList]
  rw [e]
  exact nodup_len nd h1.nd fun j => by rw [← mem j, decide_eq_true_eq, mm j]
section
variable (K : PySem.W.Frag) (w : World) (g : Cfg)
def PZ : List Int → V → Hp → (Addr → Prop) → List Addr → Prop := fun is v H _ B => ∃ a S n, v = .ref a ∧ B = [a] ∧ H a = some (SetO w a S n) ∧ SetIs S n is ∧ n < 4096
def tZ (z : Se) : TE := fun σ H Q => ∃ Rt env A, Rl K Rt H σ env A ∧ Post K g (PZ w) Rt σ H A (evSe g.G g.C z env) Q
end
section
variable {X : Cx} {g : Cfg} {pos p0 : Pos} {a b c : Expr} {ia ib ic : E} {z : Se}
theorem cr_setL2 (hc : X.calm = true) : CallR X (.type "set") (fun vs H Q => ∃ (a : Addr) (ns : List Int), vs = [V.ref a] ∧ SqL X.K H a (ns.map V.int) ∧ ns.length + 1 < scanBound ∧ ∀ p S c, SetIs S c (dedI [] ns) → H p = none → Q (.ref p) (upd H p (SetO X.w p S c))) := by
  intro pins s σ H vs us Q I r h
  obtain ⟨a, ns, rfl, hs, hb, q⟩ := h
  obtain ⟨its, rv, hl, _⟩ := I.list hs
  rw [Vals.ref1 r]
  refine call_setL ns (I.ok.hd hc) hl.isList rv.ints hb fun h' tk c R kp => ?_
  exact ⟨.ref _, upd H s.heap.objs.size (SetO X.w s.heap.objs.size (fun j => decide (j ∈ ns)) c), I.laid (t' := tk) kp (Nat.le_refl _) (setO_new R), rfl, q _ _ _ (setR_is R) (I.hok.fresh (Nat.le_refl _))⟩
theorem dedI_le : ∀ (ns acc : List Int), (dedI acc ns).length ≤ acc.length + ns.length
  | [], acc => Nat.le_refl _
  | i :: r, acc => by
    have h := dedI_le r (addI acc i)
    have h2 : (addI acc i).length ≤ acc.length + 1 := by
      unfold addI
      by_cases c : acc.contains i = true
      · rw [if_pos c]; omega
      · rw [if_neg c, List.length_append]; exact Nat.le_refl _
    show (dedI (addI acc i) r).length ≤ _
    rw [List.length_cons]
    omega
theorem snz_of {x : Str} (hx : x = "set") (hc : X.calm = true) (hg : Gl X x) (hm : X.mg x = none) (ha : PE X a (tE X.K g ia)) (hs : starEach [a] X.env = (false, eval a X.env) :: starEach [] X.env) : PE X (.Call (.Name x p0) [a] [] pos) (tZ X.K X.w g (.of ia)) := by
  subst hx
  refine PE.imp (pe_callTy (t := tCons (tE X.K g ia) tNil) (cr_setL2 hc) hg hm rfl (pa_cons ha pa_nil hs) (by decide) (by decide) hs rfl) fun σ H Q ⟨Rt, env, A, rl, p⟩ => ?_
  refine ⟨Rt, env, A, rl, Post.seq p fun x e1 v H1 A1 B1 s1 o1 p1 => ?_⟩
  have fz := s1.fz0 o1
  cases e : x.fz with
  | lst ts =>
    simp only [e] at p1
    rw [e] at fz
    cases ei : T.ints ts with
    | none => simp only [ei] at p1; exact p1.elim
    | some is =>
      simp only [ei] at p1
      have p2 : Post X.K g (PZ X.w) Rt σ H A (if decide (is.length < 4095) = true then .ok (dedI [] is) e1 else .no) Q := p1
      by_cases c : decide (is.length < 4095) = true
      · rw [if_pos c] at p2
        obtain ⟨q, xs, rfl, hq, _, hl⟩ := fz
        have ez := ints_sq ei hl
        subst ez
        have c' := of_decide_eq_true c
        refine ⟨q, is, rfl, .inl hq, (by show is.length + 1 < 4096; omega), fun p S n si hp => ?_⟩
        refine p2 (.ref p) _ A1 [p] (s1.drop0.new hp) ⟨p, S, n, rfl, rfl, upd_same, si, ?_⟩
        have := dedI_le is []
        rw [si.len]
        simp only [List.length_nil] at this
        omega
      · rw [if_neg c] at p2; exact p2.elim
  | _ => simp only [e] at p1; exact p1.elim
theorem snd_lenS {x : Str} (hx : x = "len") (hg : Gl X x) (hm : X.mg x = none) (ha : PE X a (tZ X.K X.w g z)) (hs : starEach [a] X.env = (false, eval a X.env) :: starEach [] X.env) : PE X (.Call (.Name x p0) [a] [] pos) (tE X.K g (.lenS z)) := by
  subst hx
  refine PE.imp (pe_callB (t := tCons (tZ X.K X.w g z) tNil) cr_lenSet hg hm rfl (pa_cons ha pa_nil hs) (by decide) (by decide) hs rfl) fun σ H Q ⟨Rt, env, A, rl, p⟩ => ?_
  refine ⟨Rt, env, A, rl, Post.seq p fun is e1 v H1 A1 B1 s1 o1 p1 => ?_⟩
  obtain ⟨q, S, n, rfl, rfl, hq, si, hn⟩ := o1
  refine ⟨q, S, n, rfl, hq, hn, ?_⟩
  rw [si.len]
  exact p1 (.int is.length) H1 A1 [] s1.drop0 ⟨rfl, rfl⟩
theorem snd_srtS {x : Str} (hx : x = "sorted") (hc : X.calm = true) (hg : Gl X x) (hm : X.mg x = none) (ha : PE X a (tZ X.K X.w g z)) (hs : starEach [a] X.env = (false, eval a X.env) :: starEach [] X.env) : PE X (.Call (.Name x p0) [a] [] pos) (tE X.K g (.srtS z)) := by
  subst hx
  refine PE.imp (pe_callB (t := tCons (tZ X.K X.w g z) tNil) (cr_sortedSet hc) hg hm rfl (pa_cons ha pa_nil hs) (by decide) (by decide) hs rfl) fun σ H Q ⟨Rt, env, A, rl, p⟩ => ?_
  refine ⟨Rt, env, A, rl, Post.seq p fun is e1 v H1 A1 B1 s1 o1 p1 => ?_⟩
  obtain ⟨q, S, n, rfl, rfl, hq, si, hn⟩ := o1
  have p2 : Post X.K g (PO1 X.K) Rt σ H A (if decide (is.length < 64) = true then .ok (.lst ((sortI is).map fun i => .val (.int i))) e1 else .no) Q := p1
  by_cases c : decide (is.length < 64) = true
  · rw [if_pos c] at p2
    refine ⟨q, S, n, rfl, hq, by rw [si.len]; exact of_decide_eq_true c, fun ns p ps pm pl hp => ?_⟩
    have e : ns = sortI is := by
      refine srt_uniq ?_ (ps.imp fun h => Int.le_of_lt h) (sortI_srt is)
      refine List.Perm.trans ?_ (sortI_perm is).symm
      rw [List.perm_iff_count]
      intro j
      have hnd : ns.Nodup := ps.imp fun h => Int.ne_of_lt h
      have h1 := List.nodup_iff_count.mp hnd j
      have h2 := List.nodup_iff_count.mp si.nd j
      have h3 : j ∈ ns ↔ j ∈ is := (pm j).trans (si.mem j)
      by_cases d : j ∈ ns
      · have := List.count_pos_iff.mpr d
        have := List.count_pos_iff.mpr (h3.mp d)
        omega
      · rw [List.count_eq_zero.mpr d, List.count_eq_zero.mpr fun z => d (h3.mpr z)]
    subst e
    obtain ⟨s4, o4⟩ := s1.made (Mk.ints (sortI is) hp)
    exact p2 _ _ A1 _ s4 o4
  · rw [if_neg c] at p2; exact p2.elim
end
end Ev
set_option maxHeartbeats 4000000
/-! Ev14: set comprehensions of ints; list(range(a, b, c)). -/
namespace Ev
open PySem L2
section
variable {X : Cx} {g : Cfg}
theorem addI_len (acc : List Int) (k : Int) : (addI acc k).length ≤ acc.length + 1 := by
  unfold addI
  by_cases c : acc.contains k = true
  · rw [if_pos c]; omega
  · rw [if_neg c, List.length_append]; exact Nat.le_refl _
theorem sc_ev {own : List Nat} {tgi : Tg} {it : Ev.It} {cs : Tts} {e : E} {σ : St} {H : Hp} {Q : VK} (hlen : ∀ i ∈ tgs tgi, i < X.N.length) (hσ : σ.length = X.N.length) (h : tZ X.K X.w g (.sc own tgi it cs e) σ H Q) :
    tSg (fun p => SetO X.w p (fun _ => false) 0) (rSAdd X.w) (tI X.K g it) (gT X.K tgi) (tTs X.K g.mute cs) (tE X.K g.mute e) own σ H Q := by
  obtain ⟨Rt, env, A, rl, p⟩ := h
  have hel : env.length = X.N.length := by rw [RE.len _ _ _ rl.re, hσ]
  refine ⟨Rt, env, A, rl, Post.seqE p fun ts e1 J H1 A1 B1 er s1 o1 p1 => ?_⟩
  obtain ⟨rfl, P, jt, pP⟩ := o1
  intro D hD
  have p2 : Post X.K g (PZ X.w) Rt σ H A (if (hidOk e1 own && tgIn tgi own) = true then (match scL tgi own (evTs g.G g.C cs) (evE g.G g.C e) ts [] (wipeE e1 own) with
    | .ok is env2 => .ok is (backE e1 env2 own)
    | _ => .no) else .no) Q := p1
  have c0 : (hidOk e1 own && tgIn tgi own) = true := by
    by_cases c : (hidOk e1 own && tgIn tgi own) = true
    · exact c
    · rw [if_neg c] at p2; exact p2.elim
  rw [if_pos c0] at p2
  rw [Bool.and_eq_true] at c0
  obtain ⟨hid, tin⟩ := c0
  have bare := hidOk_of hid
  cases el : scL tgi own (evTs g.G g.C cs) (evE g.G g.C e) ts [] (wipeE e1 own) with
  | exc _ _ _ => rw [el] at p2; exact p2.elim
  | no => rw [el] at p2; exact p2.elim
  | ok isF envF =>
  rw [el] at p2
  have re1 : RE X.K H1 (Av (A1 ++ []) Rt) e1 σ A1 := s1.re
  have olds : ∀ (Hc : Hp) (A' : List Addr), Go A1 H1 A' Hc → ∀ j ∈ own, e1[j]? = some none ∨ ∃ t v, e1[j]? = some (some (.val t)) ∧ σ[j]? = some (some v) ∧ Fz X.K Hc (Av A' Rt) t v := fun Hc A' go j hj => by
    rcases bare j hj with z | ⟨t, z⟩
    · exact .inl z
    · obtain ⟨_, _, _, _, _, hw, _⟩ := RE.slot e1 σ A1 j re1 (List.getElem?_eq_some_iff.mp z).1
      obtain ⟨v, ev, ow⟩ := hw _ z
      refine .inr ⟨t, v, z, ev, Fz.mono (fun b o q n => go.keep b o q fun z => n (.inl (List.mem_append_left _ z))) go.tups (fun b z => ?_) t v ow.2⟩
      rcases z with z | z
      · exact (go.new b z).imp (fun z => .inl (List.mem_append_left _ z)) id
      · exact .inl (.inr z)
  have tgin : ∀ i ∈ tgs tgi, i ∈ own := fun i hi => by
    cases tgi with
    | var k =>
      rcases List.mem_cons.mp hi with rfl | z
      · exact List.contains_iff_mem.mp tin
      · cases z
    | tup is => exact List.contains_iff_mem.mp (List.all_eq_true.mp tin i hi)
  let St8 : Nat → Hp → Prop := fun i Hc => ∃ envi Ai acc, scL tgi own (evTs g.G g.C cs) (evE g.G g.C e) (ts.drop i) acc envi = .ok isF envF ∧ Sx X.K Rt (L2.wipe σ own) H A Hc envi Ai [D] ∧
      (∃ S n, Hc D = some (SetO X.w D S n) ∧ SetIs S n acc) ∧ acc.length < 4096 ∧ P Hc (Av (Ai ++ [D]) Rt) ∧ Go A1 H1 (Ai ++ [D]) Hc ∧ ∀ j ∈ own, envi[j]? = some none
  refine ⟨fun i m Hc => m = ts.length - i ∧ i ≤ ts.length ∧ St8 i Hc, ⟨ts.length, ?_⟩, ?_⟩
  · have s2 : Sx X.K Rt σ H A (upd H1 D (SetO X.w D (fun _ => false) 0)) e1 A1 [D] := s1.new hD
    refine ⟨by simp, Nat.zero_le _, wipeE e1 own, A1, [], by simpa using el, ⟨s2.go, s2.nd, s2.rt, s2.th, s2.bth, RE.wipe own bare s2.re⟩, ⟨_, _, upd_same, SetIs.nil⟩, (by decide), ?_, ?_, fun j hj => wipeE_none own j hj (bare j hj).lt⟩
    · exact jt.mono _ _ _ _ pP (fun b o q _ => newkeep hD b o q) (newtups hD) (Sx.newav hD)
    · exact ((Go.refl (A := A1) (H := H1)).upd hD).sub fun b hb => by
        rcases List.mem_append.mp hb with z | z
        · exact List.mem_cons_of_mem _ z
        · rcases List.mem_cons.mp z with rfl | z
          · exact List.mem_cons_self
          · cases z
  · rintro i m Hc ⟨rfl, hile, envi, Ai, acc, eL, sx, ⟨S, n, hS, si⟩, hacc, pH, go, nones⟩
    by_cases hlt : i < ts.length
    · have et : ts.drop i = ts[i] :: ts.drop (i + 1) := List.drop_eq_getElem_cons hlt
      have gi : ts[i]? = some ts[i] := List.getElem?_eq_getElem hlt
      rw [et] at eL
      have eL0 : (match tgE tgi ts[i] envi with
        | none => R.no
        | some env1 => (evTs g.G g.C cs env1).bind fun b env2 => match b with
          | true => (evE g.G g.C e env2).bind fun w env3 => match w.fz with
            | .int k => if (decide (acc.length < 4095) && hidOk env3 own) = true then scL tgi own (evTs g.G g.C cs) (evE g.G g.C e) (ts.drop (i + 1)) (addI acc k) (wipeE env3 own) else .no
            | _ => .no
          | false => if hidOk env2 own = true then scL tgi own (evTs g.G g.C cs) (evE g.G g.C e) (ts.drop (i + 1)) acc (wipeE env2 own) else .no) = .ok isF envF := eL
      cases etg : tgE tgi ts[i] envi with
      | none => rw [etg] at eL0; cases eL0
      | some env1 =>
      rw [etg] at eL0
      obtain ⟨b, env2, eb, eL1⟩ := bind_ok eL0
      refine .inr ⟨jt.go Hc _ i _ pH gi, St8 (i + 1), fun Hn w => ⟨ts.length - (i + 1), by omega, rfl, hlt, w⟩, fun x Hy y => ?_⟩
      obtain ⟨ext, fx⟩ := jt.yld Hc _ i _ x Hy pH gi y
      have sx1 := sx.ext ext
      have hS1 : Hy D = some (SetO X.w D S n) := ext D _ hS
      have pH1 : P Hy (Av (Ai ++ [D]) Rt) := jt.mono _ _ _ _ pH (fun b o q _ => ext b o q) (fun b xs q => Rd.mono q fun o q => ext b o q) (fun b z => .inl z)
      have go1 : Go A1 H1 (Ai ++ [D]) Hy := ⟨fun b o q n => ext b o (go.keep b o q n), fun b xs q => Rd.mono (go.tups b xs q) fun o q => ext b o q, go.new⟩
      have elen : envi.length = X.N.length := by rw [RE.len _ _ _ sx.re, wipe_length, hσ]
      have fx1 : Fz X.K Hy (Av Ai (RtB [D] Rt)) ts[i] x := Fz.mono (fun _ _ q _ => q) (fun _ _ q => q) (fun b z => .inl (by
        rcases z with z | z | z
        · exact .inl (List.mem_append_left _ z)
        · exact .inl (List.mem_append_right _ z)
        · exact .inr z)) _ _ fx
      refine tg_ok tgi (fun j hj => by rw [elen]; exact hlen j hj) sx1.rl fx1 etg fun σ2 A2 sub rl2 kσ => ?_
      have l2 : σ2.length = σ.length := by
        rw [← RE.len _ _ _ rl2.re, tgE_len etg, elen, hσ]
      have weq : L2.wipe σ2 own = L2.wipe σ own := by
        refine wipe_eq l2 fun j hj => ?_
        rw [kσ j (fun z => hj (tgin j z)), wipe_out hj]
      refine ⟨weq, RtB [D] Rt, env1, A2, rl2, ?_⟩
      have sxT : Sx X.K Rt σ2 H A Hy env1 A2 [D] := sx1.retg rl2 sub
      have suba : ∀ b, Av (A2 ++ [D]) Rt b → Av (Ai ++ [D]) Rt b := fun b z => by
        rcases z with z | z
        · rcases List.mem_append.mp z with z | z
          · exact .inl (List.mem_append_left _ (sub b z))
          · exact .inl (List.mem_append_right _ z)
        · exact .inr z
      have pT : P Hy (Av (A2 ++ [D]) Rt) := jt.mono _ _ _ _ pH1 (fun _ _ q _ => q) (fun _ _ q => q) (fun b z => .inl (suba b z))
      have goT : Go A1 H1 (A2 ++ [D]) Hy := go1.sub fun b hb => by
        rcases List.mem_append.mp hb with z | z
        · exact List.mem_append_left _ (sub b z)
        · exact List.mem_append_right _ z
      show Post X.K g.mute PBl (RtB [D] Rt) σ2 Hy A2 (evTs g.G g.C cs env1) _
      rw [eb]
      intro b' H3 A3 B3 s3 hb3
      obtain ⟨e3, e4⟩ := hb3
      subst e3 e4
      have hS3 : H3 D = some (SetO X.w D S n) := s3.go.keep D _ hS1 (sxT.out List.mem_cons_self)
      have s4 : Sx X.K Rt σ2 H A H3 env2 A3 [D] := sxT.next s3
      have p3 : P H3 (Av (A3 ++ [D]) Rt) := sxT.nextP jt s3 pT
      have go3 : Go A1 H1 (A3 ++ [D]) H3 := goT.trans (show Go A2 Hy A3 H3 from s3.go.sub fun b hb => List.mem_append_left _ hb)
      cases b' with
      | false =>
        have eL2 : (if hidOk env2 own = true then scL tgi own (evTs g.G g.C cs) (evE g.G g.C e) (ts.drop (i + 1)) acc (wipeE env2 own) else .no) = .ok isF envF := eL1
        by_cases c : hidOk env2 own = true
        · rw [if_pos c] at eL2
          have b2 := hidOk_of c
          have rw2 := RE.wipe own b2 s4.re
          rw [weq] at rw2
          exact ⟨wipeE env2 own, A3, acc, eL2, ⟨s4.go, s4.nd, s4.rt, s4.th, s4.bth, rw2⟩, ⟨S, n, hS3, si⟩, hacc, p3, go3, fun j hj => wipeE_none own j hj (b2 j hj).lt⟩
        · rw [if_neg c] at eL2; cases eL2
      | true =>
        obtain ⟨w, env3, ew, eL2⟩ := bind_ok (show ((evE g.G g.C e env2).bind fun w env3 => match w.fz with
            | .int k => if (decide (acc.length < 4095) && hidOk env3 own) = true then scL tgi own (evTs g.G g.C cs) (evE g.G g.C e) (ts.drop (i + 1)) (addI acc k) (wipeE env3 own) else .no
            | _ => .no) = .ok isF envF from eL1)
        refine ⟨RtB [D] Rt, env2, A3, s4.rl, ?_⟩
        show Post X.K g.mute (PO1 X.K) (RtB [D] Rt) σ2 H3 A3 (evE g.G g.C e env2) _
        rw [ew]
        intro yv H4 A4 B4 s5 o5
        cases ek : w.fz with
        | int k =>
          simp only [ek] at eL2
          have eB := fzo_int ek o5
          subst eB
          have ev := fz_int ek o5
          subst ev
          have hS4 : H4 D = some (SetO X.w D S n) := s5.go.keep D _ hS3 (s4.out List.mem_cons_self)
          have s6 : Sx X.K Rt σ2 H A H4 env3 A4 [D] := s4.next s5
          have p4 : P H4 (Av (A4 ++ [D]) Rt) := s4.nextP jt s5 p3
          have go4 : Go A1 H1 (A4 ++ [D]) H4 := (go3.trans s5.go).sub fun b hb => by
            rcases List.mem_append.mp hb with z | z
            · exact List.mem_append_left _ (List.mem_append_left _ z)
            · exact List.mem_append_right _ z
          by_cases c : (decide (acc.length < 4095) && hidOk env3 own) = true
          · rw [if_pos c] at eL2
            rw [Bool.and_eq_true] at c
            have c1 := of_decide_eq_true c.1
            have aD : Av (A4 ++ [D]) Rt D := .inl (List.mem_append_right _ List.mem_cons_self)
            have lD : ∀ xs', ¬ Rd H4 D (.tup xs') := fun xs' z => by rcases z with z | ⟨o, z⟩ <;> (rw [hS4] at z; cases z)
            have s7 := s6.wr (o := SetO X.w D (fun j => S j || decide (j = k)) (if S k = true then n else n + 1)) List.mem_cons_self lD
            have b2 := hidOk_of c.2
            have rw2 := RE.wipe own b2 s7.re
            rw [weq] at rw2
            refine ⟨D, k, S, n, rfl, rfl, hS4, (by rw [si.len]; show acc.length + 1 < 4096; omega), wipeE env3 own, A4, addI acc k, eL2, ⟨s7.go, s7.nd, s7.rt, s7.th, s7.bth, rw2⟩, ⟨_, _, upd_same, si.add k⟩, ?_, ?_, ?_, fun j hj => wipeE_none own j hj (b2 j hj).lt⟩
            · have := addI_len acc k
              omega
            · refine jt.mono _ _ _ _ p4 (fun b o q n => ?_) (fun b xs' q => ?_) (fun b z => .inl z)
              · rw [upd_ne (fun z => n (by rw [z]; exact aD))]; exact q
              · have ne : b ≠ D := fun z => by subst z; exact lD xs' q
                exact Rd.mono q fun u q => by rw [upd_ne ne]; exact q
            · refine ⟨fun b o q n => ?_, fun b xs' q => ?_, go4.new⟩
              · have q4 := go4.keep b o q n
                have ne : b ≠ D := fun z => by
                  subst z
                  rw [hD] at q; cases q
                rw [upd_ne ne]; exact q4
              · have q4 := go4.tups b xs' q
                have ne : b ≠ D := fun z => by subst z; exact lD xs' q4
                exact Rd.mono q4 fun u q => by rw [upd_ne ne]; exact q
          · rw [if_neg c] at eL2; cases eL2
        | _ => simp only [ek] at eL2; cases eL2
    · have ei : i = ts.length := by omega
      subst ei
      rw [List.drop_length] at eL
      cases (show R.ok acc envi = R.ok isF envF from eL)
      refine .inl ⟨jt.stop Hc _ _ pH (Nat.le_refl _), ?_⟩
      have rb := (RE.back own (fun j hj => .inl (nones j hj)) (olds Hc (Ai ++ [D]) go) sx.re).1
      rw [backS_wipe] at rb
      exact p2 (.ref D) Hc Ai [D] ⟨sx.go, sx.nd, sx.rt, sx.th, sx.bth, rb⟩ ⟨D, S, n, rfl, rfl, hS, si, by rw [si.len]; exact hacc⟩
theorem snz_sc {elt tg iter : Expr} {ifs : List Expr} {scope : Scope} {own' : List (Str × Nat)} {own : List Nat} {pos : Pos} {tgi : Tg} {it : Ev.It} {cs : Tts} {e : E} (eo : own'.map (·.2) = own) (hc : X.calm = true) (hN : X.N.Nodup)
    (hi : PI X tg iter (tI X.K g it)) (ok : BlkOk X.N X.env.scope scope own') (hlen : ∀ i ∈ tgs tgi, i < X.N.length)
    (hg : ∀ (s : Shared) (H : Hp) (C : Addr) (cl : List (Str × Addr)) (fp : List Addr), PG (X.blk s H scope (compEnvC scope cl C X.env) fp) tg (gT X.K tgi))
    (ht : ∀ (s : Shared) (H : Hp) (C : Addr) (cl : List (Str × Addr)) (fp : List Addr), PTs (X.blk s H scope (compEnvC scope cl C X.env) fp) ifs (tTs X.K g.mute cs))
    (he : ∀ (s : Shared) (H : Hp) (C : Addr) (cl : List (Str × Addr)) (fp : List Addr), PE (X.blk s H scope (compEnvC scope cl C X.env) fp) elt (tE X.K g.mute e)) (hs : ∀ x, foldedSetIterable iter X.env x = pure x) :
    PE X (.SetComp elt [⟨tg, iter, ifs, 0⟩] scope pos) (tZ X.K X.w g (.sc own tgi it cs e)) := by
  subst eo
  refine ⟨fun pins s σ H Q I h => (pe_sg (fun H h => setO_new (setR_fresh X.w)) (fun Y e1 e2 => ?_) hc hN hi ok hg ht he hs).run pins s σ H Q I (sc_ev hlen I.len h)⟩
  rw [← e2]
  exact mt_sadd
end
/-! ### list(range(a, b, c)) -/
theorem stepI_map (a c : Int) (n : Nat) : (List.range n).map (fun (i : Nat) => V.int (a + (i : Nat) * c)) = (stepI a c n).map V.int := by
  induction n generalizing a with
  | zero => rfl
  | succ n ih =>
    rw [List.range_succ_eq_map, List.map_cons, List.map_map]
    show _ = V.int a :: (stepI (a + c) c n).map V.int
    rw [← ih (a + c)]
    congr 1
    · simp
    · refine List.map_congr_left fun i _ => ?_
      show V.int (a + ((i + 1 : Nat) : Int) * c) = V.int (a + c + (i : Nat) * c)
      congr 1
      rw [Int.natCast_add, Int.add_mul]
      omega
section
variable {X : Cx} {g : Cfg} {pos p0 : Pos} {a b c : Expr} {ia ib ic : E}
theorem vals_st {a c : Int} {n : Nat} {acc : Array Value} (h : ItemsOf (fun i v => ∃ t, v = .int (a + i * c) t) acc n) : Vals ((stepI a c n).map V.int) acc.toList := by
  have e : acc.toList.length = n := by rw [Array.length_toList]; exact h.1
  rw [← stepI_map, ← e]
  refine vals_of_get acc.toList _ fun j u hj => ?_
  obtain ⟨t, rfl⟩ := h.2 j u (by rw [← hj, Array.getElem?_toList])
  exact ⟨t, rfl⟩
theorem stepI_len (a c : Int) : ∀ n, (stepI a c n).length = n := by
  intro n
  induction n generalizing a with
  | zero => rfl
  | succ n ih => show (stepI (a + c) c n).length + 1 = _; rw [ih]
theorem pe_listRg3 {pr pl : Pos} {ta : TA} (hc : X.calm = true) (hgl : Gl X "list") (hml : X.mg "list" = none) (hgr : Gl X "range") (hmr : X.mg "range" = none) (ha : PA X [a, b, c] ta)
    (hs : starEach [a, b, c] X.env = (false, eval a X.env) :: starEach [b, c] X.env) (hpl : (backTo p0 (starEach [b, c] X.env)).any (·.1) = false) :
    PE X (.Call (.Name "list" pl) [.Call (.Name "range" pr) [a, b, c] [] p0] [] pos) (fun σ H Q => ta σ H fun vs H1 => ∃ (i j k : Int) (n : Nat), vs = [.int i, .int j, .int k] ∧ RgC i j k n ∧ n ≤ 16777216 ∧ ∀ q, H1 q = none → Q (.ref q) (upd H1 q (.lst ((stepI i k n).map V.int)))) := by
  refine ⟨fun pins s σ H Q I h => ?_⟩
  refine PyProof.Rows.Call_ (ld_blt I hgl hml PyProof.Rows.boot_list (PyProof.Rows.callWith_type1 (PyProof.Rows.args_cons ?_ rfl) rfl))
  refine PyProof.Rows.Call_ (ld_blt I hgr hmr PyProof.Rows.boot_range (PyProof.Rows.callWith_type1 (thn (ha.run p0 pins s σ H _ I h) fun us s1 ⟨vs, H1, I1, r1, q1⟩ => ?_) hs hpl))
  obtain ⟨i, j, k, n, e, ⟨c0, c1, c2, c3⟩, hz, q⟩ := q1
  subst e
  cases r1 with
  | cons r rr =>
  cases rr with
  | cons r' rr =>
  cases rr with
  | cons r'' rr =>
  cases rr
  obtain ⟨t, rfl⟩ := r
  obtain ⟨t', rfl⟩ := r'
  obtain ⟨t'', rfl⟩ := r''
  refine call_range_3 c0 ?_ (.inl (PyProof.noPylong_small c1))
  refine PyProof.Rows.args_nil ?_
  have I2 : Inv X pins σ H1 { s1 with heap := s1.heap.push { cls := .type "range", data := .fields #[.int i t, .int j t', .int k t''] } } := I1.kept (t' := s1.toks) fun b o e => Heap.get?_push_of_some _ e
  refine call_list_range (n := n) (I2.ok.hd hc) (IsRange.new ..) c2 c3 (by omega) fun h' tk acc c' hk e' hi => ?_
  refine ⟨.ref _, upd H1 _ (.lst ((stepI i k n).map V.int)), I2.laid hk (Nat.le_refl _) (show ObjOk X.prog X.w _ _ _ (.lst ((stepI i k n).map V.int)) from ⟨?_, acc.toList, c', vals_st hi, ?_⟩), rfl, q _ (I2.hok.fresh (Nat.le_refl _))⟩
  · rw [List.length_map, stepI_len, sizeLine_eq]; exact hz
  · rw [Array.toArray_toList]; exact e'
theorem rsz {a b c : Int} (hc : 0 < c) : Builtin.Range.rangeSize a b c = (((b - a + c - 1) / c).toNat : Nat) := by
  unfold Builtin.Range.rangeSize
  rw [if_pos (show c > 0 from hc)]
  by_cases h : a < b
  · rw [if_pos h]
    have e : b - a + c - 1 = (b - a - 1) + 1 * c := by omega
    have p : 0 ≤ (b - a - 1) / c := Int.ediv_nonneg (by omega) (by omega)
    rw [e, Int.add_mul_ediv_right _ _ (by omega), Int.toNat_of_nonneg (by omega)]
  · rw [if_neg h]
    have p : (b - a + c - 1) / c ≤ 0 := by
      have : (b - a + c - 1) / c < 1 := Int.ediv_lt_of_lt_mul hc (by omega)
      omega
    rw [Int.toNat_of_nonpos p]
    rfl
theorem snd_lrng3 {pr pl : Pos} (hc : X.calm = true) (hgl : Gl X "list") (hml : X.mg "list" = none) (hgr : Gl X "range") (hmr : X.mg "range" = none) (ha : PE X a (tE X.K g ia)) (hb : PE X b (tE X.K g ib)) (hcc : PE X c (tE X.K g ic))
    (hs : starEach [a, b, c] X.env = (false, eval a X.env) :: starEach [b, c] X.env) (hs2 : starEach [b, c] X.env = (false, eval b X.env) :: starEach [c] X.env) (hs3 : starEach [c] X.env = (false, eval c X.env) :: starEach [] X.env) (hpl : (backTo p0 (starEach [b, c] X.env)).any (·.1) = false) :
    PE X (.Call (.Name "list" pl) [.Call (.Name "range" pr) [a, b, c] [] p0] [] pos) (tE X.K g (.lrng3 ia ib ic)) :=
  PE.imp (pe_listRg3 hc hgl hml hgr hmr (pa_cons ha (pa_cons hb (pa_cons hcc pa_nil hs3) hs2) hs) hs hpl) fun σ H Q ⟨Rt, env, A, rl, p⟩ => by
    refine ⟨Rt, env, A, rl, Post.seq p fun x e1 v H1 A1 B1 s1 o1 p1 => ?_⟩
    refine ⟨RtB B1 Rt, e1, A1, s1.rl, Post.seq2 s1 p1 fun y e2 v2 H2 A2 B2 s2 o2 p2 => ?_⟩
    have s12 := s1.next s2
    refine ⟨RtB (B1 ++ B2) Rt, e2, A2, s12.rl, Post.seq2 s12 p2 fun z e3 v3 H3 A3 B3 s3 o3 p3 => ?_⟩
    have s13 := s12.next s3
    obtain ⟨w, ew, p4⟩ := Post.of p3
    obtain ⟨is, ei, e4⟩ := Option.map_eq_some_iff.mp ew
    subst e4
    cases ex : x.fz with
    | int i =>
      cases ey : y.fz with
      | int j =>
        cases ez : z.fz with
        | int k =>
          rw [ex, ey, ez] at ei
          have ei' : (if (okR i && okR j && decide (0 < k) && decide (k ≤ 16777216)) = true then some (stepI i k ((j - i + k - 1) / k).toNat) else none) = some is := ei
          by_cases cc : (okR i && okR j && decide (0 < k) && decide (k ≤ 16777216)) = true
          · rw [if_pos cc] at ei'
            cases ei'
            simp only [Bool.and_eq_true, decide_eq_true_eq] at cc
            obtain ⟨⟨⟨c1, c2⟩, c3⟩, c4⟩ := cc
            have d1 := okR_of c1
            have d2 := okR_of c2
            have le : (j - i + k - 1) / k ≤ 16777216 := by
              have : (j - i + k - 1) / k < 16777217 := Int.ediv_lt_of_lt_mul c3 (by
                have : j - i ≤ 16777216 := by omega
                have h2 : 16777217 * k = 16777216 * k + k := by omega
                have h3 : 16777216 ≤ 16777216 * k := by omega
                omega)
              omega
            refine ⟨i, j, k, ((j - i + k - 1) / k).toNat, ?_, ⟨by omega, by omega, ?_, rsz c3⟩, by omega, fun q hq => ?_⟩
            · rw [fz_int ex o1, fz_int ey o2, fz_int ez o3]
            · unfold Builtin.Range.small
              rw [rsz c3]
              simp only [Builtin.Range.rangeFitsLong, Bool.and_eq_true, Bool.or_eq_true, decide_eq_true_eq, beq_iff_eq, show k > 0 from c3, if_true]
              generalize en0 : ((j - i + k - 1) / k).toNat = n0
              have hn0 : n0 ≤ 16777216 := by omega
              clear ei p4 ew en0 p3 p2 p1 p
              omega
            · obtain ⟨s4, o4⟩ := s13.made (Mk.ints (stepI i k ((j - i + k - 1) / k).toNat) hq)
              exact p4 _ _ A3 _ s4 o4
          · rw [if_neg cc] at ei'; cases ei'
        | _ => rw [ex, ey, ez] at ei; cases ei
      | _ => rw [ex, ey] at ei; cases ei
    | _ => rw [ex] at ei; cases ei
end
end Ev
set_option maxHeartbeats 4000000
/-! Ev15: the rules in short forms, their side conditions by computation. -/
namespace Ev
open PySem L2
/-! ### conditions by computation -/
def visB (sc : Scope) (x : Str) : Bool := match sc.names.lookup x with
  | some .local => true
  | some .cell => true
  | some .free => true
  | _ => false
theorem vis_of {sc : Scope} {x : Str} (h : visB sc x = true) : Vis sc x := by
  unfold visB at h
  unfold Vis
  split at h <;> first | (rename_i e; rw [e]; simp) | cases h
def locB (sc : Scope) (x : Str) : Bool := match sc.names.lookup x with
  | some .local => true
  | some .cell => true
  | _ => false
theorem loc_of {sc : Scope} {x : Str} (h : locB sc x = true) : L2.Loc sc x := by
  unfold locB at h
  unfold L2.Loc
  split at h <;> first | (rename_i e; rw [e]; simp) | cases h
def lclB (sc : Scope) (x : Str) : Bool := match sc.names.lookup x with
  | some .local => true
  | _ => false
theorem lcl_of {sc : Scope} {x : Str} (h : lclB sc x = true) : sc.names.lookup x = some .local := by
  unfold lclB at h
  split at h <;> first | (rename_i e; rw [e]) | cases h
def glB (env : PySem.Env) (x : Str) : Bool := match env.kindOf x with
  | some .globalImplicit => true
  | _ => false
theorem gl_of {X : Cx} {x : Str} (h : glB X.env x = true) : Gl X x := by
  unfold glB at h
  unfold Gl
  split at h <;> first | (rename_i e; rw [e]) | cases h
def isLoc : NameKind → Bool
  | .local => true
  | .cell => true
  | _ => false
def isFree : NameKind → Bool
  | .free => true
  | _ => false
def celB (sc : Scope) (x : Str) : Bool := match sc.names.lookup x with
  | some .cell => true
  | some .free => true
  | _ => false
def sameK : NameKind → Option NameKind → Bool
  | .local, some .local => true
  | .cell, some .cell => true
  | .free, some .free => true
  | .globalImplicit, some .globalImplicit => true
  | .globalExplicit, some .globalExplicit => true
  | _, _ => false
def funB : ScopeKind → Bool
  | .function => true
  | _ => false
def blkB (N : List Str) (sc scope : Scope) (own : List (Str × Nat)) : Bool :=
  funB scope.kind && scope.names.all (fun y => sameK y.2 (scope.names.lookup y.1)) && own.all (fun p => N[p.2]? == some p.1) && scope.names.all (fun y => !isFree y.2 || celB sc y.1) &&
    scope.names.all fun y => !isLoc y.2 || (own.map (·.1)).contains y.1 || !N.contains y.1
theorem sameK_of {k : NameKind} {o : Option NameKind} (h : sameK k o = true) : o = some k := by
  cases o with
  | none => cases k <;> cases h
  | some j => cases k <;> cases j <;> first | rfl | cases h
theorem blk_of {N : List Str} {sc scope : Scope} {own : List (Str × Nat)} (h : blkB N sc scope own = true) : BlkOk N sc scope own := by
  unfold blkB at h
  simp only [Bool.and_eq_true] at h
  obtain ⟨⟨⟨⟨h1, h2⟩, h3⟩, h4⟩, h5⟩ := h
  refine ⟨?_, fun y hy => sameK_of (List.all_eq_true.mp h2 y hy), fun p hp => ?_, fun y hy e => ?_, fun y hy e => ?_⟩
  · unfold funB at h1
    split at h1 <;> first | assumption | cases h1
  · have := List.all_eq_true.mp h3 p hp
    exact eq_of_beq this
  · have := List.all_eq_true.mp h4 y hy
    rw [e] at this
    have this : celB sc y.1 = true := by simpa [isFree] using this
    unfold celB at this
    split at this <;> first | (rename_i e; rw [e]; simp) | cases this
  · have := List.all_eq_true.mp h5 y hy
    have hl : isLoc y.2 = true := by rcases e with e | e <;> rw [e] <;> rfl
    rw [hl] at this
    simp only [Bool.not_true, Bool.false_or, Bool.or_eq_true] at this
    rcases this with z | z
    · exact .inl (List.contains_iff_mem.mp z)
    · refine .inr fun w => ?_
      rw [List.contains_iff_mem.mpr w] at z
      cases z
def allLt (is : List Nat) (n : Nat) : Bool := is.all fun i => Nat.blt i n
theorem allLt_of {is : List Nat} {n : Nat} (h : allLt is n = true) : ∀ i ∈ is, i < n := fun i hi => Nat.blt_eq.mp (List.all_eq_true.mp h i hi)
def noneIn (ks is : List Nat) : Bool := ks.all fun j => !is.contains j
theorem noneIn_of {ks is : List Nat} (h : noneIn ks is = true) : ∀ j ∈ ks, is.contains j = false := fun j hj => by
  have := List.all_eq_true.mp h j hj
  simpa using this
def okName (x : Str) : Bool := !(x == ("__debug__" : Str)) && !(x == ("__classdict__" : Str)) && !(x == ("__name__" : Str))
theorem okName_of {x : Str} (h : okName x = true) : (x == ("__debug__" : Str)) = false ∧ (x == ("__classdict__" : Str)) = false ∧ x ≠ "__name__" := by
  unfold okName at h
  simp only [Bool.and_eq_true, Bool.not_eq_true'] at h
  exact ⟨h.1.1, h.1.2, fun e => by
    have h2 := h.2
    rw [e] at h2
    rw [beq_self_eq_true] at h2
    cases h2⟩
/-! ### where a text stands -/
structure Cn (X : Cx) (g : Cfg) (d : Nat) (fs : List (Str × List Nat × Nat)) (bl : List Str) (cs : List (Str × Int)) : Prop where
  calm : X.calm = true
  nd : X.N.Nodup
  un : X.A.units + 64 < cLine
  tk : Takes X g.W
  room : Room d X.A
  fn : ∀ i x io n, fs[i]? = some (x, io, n) → FnC X.prog X.w X.K X.mg X.base g.xr g.C d i x io n []
  bl : ∀ x, bl.contains x = true → X.mg x = none
  ct : ∀ i x n, cs[i]? = some (x, n) → g.G i = some (.int n) ∧ ∃ t, X.mg x = some (.int n t)
theorem Cn.blk {X : Cx} {g : Cfg} {d : Nat} {fs : List (Str × List Nat × Nat)} {bl : List Str} {cs : List (Str × Int)} (c : Cn X g d fs bl cs) {s : Shared} {H : Hp} {scope : Scope} {env : PySem.Env} {fp : List Addr} : Cn (X.blk s H scope env fp) g.mute d fs bl cs :=
  ⟨c.calm, c.nd, c.un, takes0, c.room, c.fn, c.bl, c.ct⟩
section
variable {X : Cx} {g : Cfg} {d : Nat} {fs : List (Str × List Nat × Nat)} {bl : List Str} {cs : List (Str × Int)} {pos p0 p1 p2 p3 : Pos} {a b c : Expr} {es rest : List Expr} {ia ib ic : E} {ja jb : Tt} {is : Es} {as : As} {x y z : Str} {k : Nat}
/-! ### expressions -/
theorem e_rd (i : Nat) (hN : X.N[i]? = some x := by rfl) (hv : visB X.env.scope x = true := by rfl) (hx : okName x = true := by rfl) : PE X (.Name x pos) (tE X.K g (.rd i)) := snd_rd hN (vis_of hv) (okName_of hx).1 (okName_of hx).2.1
theorem e_rdx (i : Nat) (hb : PE X b (tE X.K g ib)) (hN : X.N[i]? = some x := by rfl) (hv : visB X.env.scope x = true := by rfl) (hx : okName x = true := by rfl) (hs : PlainIx b := by exact fun _ _ => rfl) : PE X (.Subscript (.Name x p0) b pos) (tE X.K g (.rdx i ib)) :=
  snd_rdx hN (vis_of hv) (okName_of hx).1 (okName_of hx).2.1 hb hs
theorem e_cst (cx : Cn X g d fs bl cs) (i : Nat) {n : Int} (h : cs[i]? = some (x, n) := by rfl) (hg : glB X.env x = true := by rfl) (hx : okName x = true := by rfl) : PE X (.Name x pos) (tE X.K g (.cst i)) := by
  obtain ⟨h1, t, h2⟩ := cx.ct i x n h
  exact snd_cst h1 (fun _ _ => rfl) (gl_of hg) h2 ⟨t, rfl⟩ (okName_of hx).1
theorem e_cmp {o : CmpOp} (cx : Cn X g d fs bl cs) (ha : PE X a (tE X.K g ia)) (hb : PE X b (tE X.K g ib)) (hm : behindInMarks o b = false := by rfl) : PE X (.Compare a [o] [b] pos) (tE X.K g (.cmp o ia ib)) := snd_cmp cx.un ha hb hm
theorem e_chn {o o' : CmpOp} (cx : Cn X g d fs bl cs) (ha : PE X a (tE X.K g ia)) (hb : PE X b (tE X.K g ib)) (hc : PE X c (tE X.K g ic)) (hm : lastMarks [o, o'] [b, c] = false := by rfl) : PE X (.Compare a [o, o'] [b, c] pos) (tE X.K g (.chn o o' ia ib ic)) := snd_chn cx.un ha hb hc hm
theorem e_ix (ha : PE X a (tE X.K g ia)) (hb : PE X b (tE X.K g ib)) (hs : PlainIx b := by exact fun _ _ => rfl) : PE X (.Subscript a b pos) (tE X.K g (.ix ia ib)) := snd_ix ha hb hs
theorem e_cons (he : PE X a (tE X.K g ia)) (hs : PA X es (tEs X.K g is)) (hst : starEach (a :: es) X.env = (false, eval a X.env) :: starEach es X.env := by rfl) : PA X (a :: es) (tEs X.K g (.cons ia is)) := snd_cons he hs hst
theorem e_nil : PA X [] (tEs X.K g .nil) := pa_nil'
section
variable (cx : Cn X g d fs bl cs) (hs : PA X (a :: es) (tEs X.K g is)) (hg : glB X.env x = true) (hm : bl.contains x = true) (hx : okName x = true) (he : starEach (a :: es) X.env = (false, eval a X.env) :: starEach es X.env) (hpl : (backTo pos (starEach es X.env)).any (·.1) = false)
include cx hs hg hm hx he hpl
theorem bv {id : String} {f : List T → Option W} {i : E} (hc : CallR X (.builtin id) (rPL X.K f)) (hv : bootBuiltins x = some (.builtin id)) (ev : ∀ env, evE g.G g.C i env = (evEs g.G g.C is env).bind fun ws env1 => R.of (f (fzs ws)) env1) : PE X (.Call (.Name x p0) (a :: es) [] pos) (tE X.K g i) :=
  snd_callv hc (gl_of hg) (cx.bl x hm) hv hs (okName_of hx).2.2 (okName_of hx).1 he hpl ev
theorem bt {id : String} {f : List T → Option W} {i : E} (hc : CallR X (.type id) (rPL X.K f)) (hv : bootBuiltins x = some (.type id)) (ev : ∀ env, evE g.G g.C i env = (evEs g.G g.C is env).bind fun ws env1 => R.of (f (fzs ws)) env1) : PE X (.Call (.Name x p0) (a :: es) [] pos) (tE X.K g i) :=
  snd_callt hc (gl_of hg) (cx.bl x hm) hv hs (okName_of hx).2.2 (okName_of hx).1 he hpl ev
end
theorem e_len (cx : Cn X g d fs bl cs) (hs : PA X (a :: es) (tEs X.K g is)) (hg : glB X.env "len" = true := by rfl) (hm : bl.contains "len" = true := by rfl) (he : starEach (a :: es) X.env = (false, eval a X.env) :: starEach es X.env := by rfl) (hpl : (backTo pos (starEach es X.env)).any (·.1) = false := by rfl) : PE X (.Call (.Name "len" p0) (a :: es) [] pos) (tE X.K g (.bi .len is)) :=
  bv cx hs hg hm (by decide) he hpl bi_len (by decide +kernel) fun _ => rfl
theorem e_sorted (cx : Cn X g d fs bl cs) (hs : PA X (a :: es) (tEs X.K g is)) (hg : glB X.env "sorted" = true := by rfl) (hm : bl.contains "sorted" = true := by rfl) (he : starEach (a :: es) X.env = (false, eval a X.env) :: starEach es X.env := by rfl) (hpl : (backTo pos (starEach es X.env)).any (·.1) = false := by rfl) : PE X (.Call (.Name "sorted" p0) (a :: es) [] pos) (tE X.K g (.bi .sorted is)) :=
  bv cx hs hg hm (by decide) he hpl bi_sorted (by decide +kernel) fun _ => rfl
theorem e_min (cx : Cn X g d fs bl cs) (hs : PA X (a :: es) (tEs X.K g is)) (hg : glB X.env "min" = true := by rfl) (hm : bl.contains "min" = true := by rfl) (he : starEach (a :: es) X.env = (false, eval a X.env) :: starEach es X.env := by rfl) (hpl : (backTo pos (starEach es X.env)).any (·.1) = false := by rfl) : PE X (.Call (.Name "min" p0) (a :: es) [] pos) (tE X.K g (.bi .min is)) :=
  bv cx hs hg hm (by decide) he hpl (bi_min cx.calm) (by decide +kernel) fun _ => rfl
theorem e_max (cx : Cn X g d fs bl cs) (hs : PA X (a :: es) (tEs X.K g is)) (hg : glB X.env "max" = true := by rfl) (hm : bl.contains "max" = true := by rfl) (he : starEach (a :: es) X.env = (false, eval a X.env) :: starEach es X.env := by rfl) (hpl : (backTo pos (starEach es X.env)).any (·.1) = false := by rfl) : PE X (.Call (.Name "max" p0) (a :: es) [] pos) (tE X.K g (.bi .max is)) :=
  bv cx hs hg hm (by decide) he hpl (bi_max cx.calm) (by decide +kernel) fun _ => rfl
theorem e_sum (cx : Cn X g d fs bl cs) (hs : PA X (a :: es) (tEs X.K g is)) (hg : glB X.env "sum" = true := by rfl) (hm : bl.contains "sum" = true := by rfl) (he : starEach (a :: es) X.env = (false, eval a X.env) :: starEach es X.env := by rfl) (hpl : (backTo pos (starEach es X.env)).any (·.1) = false := by rfl) : PE X (.Call (.Name "sum" p0) (a :: es) [] pos) (tE X.K g (.bi .sum is)) :=
  bv cx hs hg hm (by decide) he hpl (bi_sum cx.calm) (by decide +kernel) fun _ => rfl
theorem e_all (cx : Cn X g d fs bl cs) (hs : PA X (a :: es) (tEs X.K g is)) (hg : glB X.env "all" = true := by rfl) (hm : bl.contains "all" = true := by rfl) (he : starEach (a :: es) X.env = (false, eval a X.env) :: starEach es X.env := by rfl) (hpl : (backTo pos (starEach es X.env)).any (·.1) = false := by rfl) : PE X (.Call (.Name "all" p0) (a :: es) [] pos) (tE X.K g (.bi .all is)) :=
  bv cx hs hg hm (by decide) he hpl (bi_all cx.calm) (by decide +kernel) fun _ => rfl
theorem e_any (cx : Cn X g d fs bl cs) (hs : PA X (a :: es) (tEs X.K g is)) (hg : glB X.env "any" = true := by rfl) (hm : bl.contains "any" = true := by rfl) (he : starEach (a :: es) X.env = (false, eval a X.env) :: starEach es X.env := by rfl) (hpl : (backTo pos (starEach es X.env)).any (·.1) = false := by rfl) : PE X (.Call (.Name "any" p0) (a :: es) [] pos) (tE X.K g (.bi .any is)) :=
  bv cx hs hg hm (by decide) he hpl (bi_any cx.calm) (by decide +kernel) fun _ => rfl
theorem e_list (cx : Cn X g d fs bl cs) (hs : PA X (a :: es) (tEs X.K g is)) (hg : glB X.env "list" = true := by rfl) (hm : bl.contains "list" = true := by rfl) (he : starEach (a :: es) X.env = (false, eval a X.env) :: starEach es X.env := by rfl) (hpl : (backTo pos (starEach es X.env)).any (·.1) = false := by rfl) : PE X (.Call (.Name "list" p0) (a :: es) [] pos) (tE X.K g (.bi .list is)) :=
  bt cx hs hg hm (by decide) he hpl bi_list (by decide +kernel) fun _ => rfl
theorem e_tuple (cx : Cn X g d fs bl cs) (hs : PA X (a :: es) (tEs X.K g is)) (hg : glB X.env "tuple" = true := by rfl) (hm : bl.contains "tuple" = true := by rfl) (he : starEach (a :: es) X.env = (false, eval a X.env) :: starEach es X.env := by rfl) (hpl : (backTo pos (starEach es X.env)).any (·.1) = false := by rfl) : PE X (.Call (.Name "tuple" p0) (a :: es) [] pos) (tE X.K g (.bi .tuple is)) :=
  bt cx hs hg hm (by decide) he hpl bi_tuple (by decide +kernel) fun _ => rfl
theorem e_toint (cx : Cn X g d fs bl cs) (hs : PA X (a :: es) (tEs X.K g is)) (hg : glB X.env "int" = true := by rfl) (hm : bl.contains "int" = true := by rfl) (he : starEach (a :: es) X.env = (false, eval a X.env) :: starEach es X.env := by rfl) (hpl : (backTo pos (starEach es X.env)).any (·.1) = false := by rfl) : PE X (.Call (.Name "int" p0) (a :: es) [] pos) (tE X.K g (.bi .int is)) :=
  bt cx hs hg hm (by decide) he hpl bi_int (by decide +kernel) fun _ => rfl
theorem e_isi (cx : Cn X g d fs bl cs) (y : Ty) (ha : PE X a (tE X.K g ia)) (hy : y ≠ .non := by decide) (hg : glB X.env "isinstance" = true := by rfl) (hm : bl.contains "isinstance" = true := by rfl) (hgx : glB X.env x = true := by rfl) (hmx : bl.contains x = true := by rfl) (hbx : bootBuiltins x = some (.type y.nm) := by decide +kernel) (hx : okName x = true := by rfl)
    (hs : starEach [a, .Name x p1] X.env = (false, eval a X.env) :: starEach [.Name x p1] X.env := by rfl) : PE X (.Call (.Name "isinstance" p0) [a, .Name x p1] [] pos) (tE X.K g (.isi ia y)) :=
  snd_isi hy (gl_of hg) (cx.bl _ hm) (gl_of hgx) (cx.bl _ hmx) hbx (okName_of hx).1 (okName_of hx).2.2 ha hs
theorem e_isis2 (cx : Cn X g d fs bl cs) (u v : Ty) {kt : Nat} (ha : PE X a (tE X.K g ia)) (hu : u ≠ .non := by decide) (hv : v ≠ .non := by decide) (hg : glB X.env "isinstance" = true := by rfl) (hm : bl.contains "isinstance" = true := by rfl)
    (hgx : glB X.env x = true := by rfl) (hmx : bl.contains x = true := by rfl) (hbx : bootBuiltins x = some (.type u.nm) := by decide +kernel) (hx : okName x = true := by rfl)
    (hgy : glB X.env y = true := by rfl) (hmy : bl.contains y = true := by rfl) (hby : bootBuiltins y = some (.type v.nm) := by decide +kernel) (hy : okName y = true := by rfl)
    (hs : starEach [a, .Tuple [.Name x p1, .Name y p2] kt p3] X.env = (false, eval a X.env) :: starEach [.Tuple [.Name x p1, .Name y p2] kt p3] X.env := by rfl) : PE X (.Call (.Name "isinstance" p0) [a, .Tuple [.Name x p1, .Name y p2] kt p3] [] pos) (tE X.K g (.isis ia [u, v])) :=
  snd_isis2 hu hv (gl_of hg) (cx.bl _ hm) (gl_of hgx) (cx.bl _ hmx) hbx (okName_of hx).1 (okName_of hx).2.2 (gl_of hgy) (cx.bl _ hmy) hby (okName_of hy).1 (okName_of hy).2.2 ha hs
/-! ### calls of the text's own defs -/
theorem a_nil : PA X [] (tA X.K g .nil) := sna_nil
theorem a_cons (he : PE X a (tE X.K g ia)) (hs : PA X es (tA X.K g as)) (hst : starEach (a :: es) X.env = (false, eval a X.env) :: starEach es X.env := by rfl) : PA X (a :: es) (tA X.K g (.cons ia as)) := sna_cons he hs hst
theorem a_io (i : Nat) (hs : PA X es (tA X.K g as)) (hN : X.N[i]? = some x := by rfl) (hv : visB X.env.scope x = true := by rfl) (hx : okName x = true := by rfl)
    (hst : starEach (.Name x pos :: es) X.env = (false, eval (.Name x pos) X.env) :: starEach es X.env := by rfl) : PA X (.Name x pos :: es) (tA X.K g (.io i as)) := sna_io hN (vis_of hv) (okName_of hx).1 (okName_of hx).2.1 hs hst
def As.len : As → Nat
  | .nil => 0
  | .cons _ as => as.len + 1
  | .io _ as => as.len + 1
theorem vsAt_len {σ : St} : ∀ (as : As) (vs : List V), VsAt σ as vs → vs.length = as.len
  | .nil, vs, h => by rw [show vs = [] from h]; rfl
  | .cons _ as, vs, h => by
    obtain ⟨v, r, rfl, h⟩ := h
    rw [List.length_cons, vsAt_len as r h]
    rfl
  | .io _ as, vs, h => by
    obtain ⟨v, r, rfl, _, h⟩ := h
    rw [List.length_cons, vsAt_len as r h]
    rfl
theorem e_call (cx : Cn X g d fs bl cs) (f : Nat) {io : List Nat} {n : Nat} (ha : PA X (a :: es) (tA X.K g as)) (hf : fs[f]? = some (x, io, n) := by rfl) (hio : ioPos 0 as = io := by rfl) (hn : Nat.beq as.len n = true := by rfl) (hl : Nat.beq as.len (es.length + 1) = true := by rfl) (hg : glB X.env x = true := by rfl) (hx : okName x = true := by rfl)
    (he : starEach (a :: es) X.env = (false, eval a X.env) :: starEach es X.env := by rfl) (hpl : (backTo pos (starEach es X.env)).any (·.1) = false := by rfl) : PE X (.Call (.Name x p0) (a :: es) [] pos) (tE X.K g (.call f as [])) :=
  snd_call (cx.fn f x io n hf) cx.room cx.tk (gl_of hg) hio (fun _ _ => rfl) ((Nat.eq_of_beq_eq_true hl).symm.trans (Nat.eq_of_beq_eq_true hn)) ha (fun vs σ h => (vsAt_len as vs h).trans (Nat.eq_of_beq_eq_true hl)) (okName_of hx).1 he hpl
/-! ### tests -/
theorem t_v (ha : PE X a (tE X.K g ia)) (h : plainT a = true := by rfl) : PT X a (tT X.K g (.v ia)) := snt_v ha h
theorem t_cmp {o : CmpOp} (cx : Cn X g d fs bl cs) (ha : PE X a (tE X.K g ia)) (hb : PE X b (tE X.K g ib)) (hm : behindInMarks o b = false := by rfl) : PT X (.Compare a [o] [b] pos) (tT X.K g (.v (.cmp o ia ib))) := snt_cmp cx.un ha hb hm
theorem t_chn {o o' : CmpOp} (cx : Cn X g d fs bl cs) (ha : PE X a (tE X.K g ia)) (hb : PE X b (tE X.K g ib)) (hc : PE X c (tE X.K g ic)) (hm : lastMarks [o, o'] [b, c] = false := by rfl) : PT X (.Compare a [o, o'] [b, c] pos) (tT X.K g (.v (.chn o o' ia ib ic))) := snt_chn cx.un ha hb hc hm
theorem t_w {a : Expr} (h : PW X a (tT X.K g ja)) : PT X a (tT X.K g ja) := h.pt
theorem ts_nil : PTs X [] (tTs X.K g .nil) := ⟨fun pins s σ H Q I ⟨Rt, env, A, rl, p⟩ => pts_nil.run pins s σ H Q I (p true H A [] rl.sx ⟨rfl, rfl⟩)⟩
theorem ts_one (h : PT X a (tT X.K g ja)) : PTs X [a] (tTs X.K g (.cons ja .nil)) := ⟨fun pins s σ H Q I ⟨Rt, env, A, rl, p⟩ => (pts_one h).run pins s σ H Q I (by
  refine ⟨Rt, env, A, rl, ?_⟩
  have p' : Post X.K g PBl Rt σ H A ((evT g.G g.C ja env).bind fun k env1 => (match k with | true => .ok true env1 | false => .ok false env1)) Q := p
  cases e : evT g.G g.C ja env with
  | no => rw [e] at p'; exact p'
  | exc c t e1 => rw [e] at p'; exact p'
  | ok b e1 =>
    rw [e] at p'
    cases b with
    | true => exact p'
    | false => exact p')⟩
/-! ### what is walked -/
variable {tg : Expr}
theorem i_rng1 (cx : Cn X g d fs bl cs) (ha : PE X a (tE X.K g ia)) (hg : glB X.env "range" = true := by rfl) (hm : bl.contains "range" = true := by rfl) (hs : starEach [a] X.env = [(false, eval a X.env)] := by rfl) : PI X tg (.Call (.Name "range" p0) [a] [] pos) (tI X.K g (.rng ia .no)) := sni_rng1 (gl_of hg) (cx.bl _ hm) ha hs
theorem i_rng2 (cx : Cn X g d fs bl cs) (ha : PE X a (tE X.K g ia)) (hb : PE X b (tE X.K g ib)) (hg : glB X.env "range" = true := by rfl) (hm : bl.contains "range" = true := by rfl) (hs : starEach [a, b] X.env = [(false, eval a X.env), (false, eval b X.env)] := by rfl) (hs2 : starEach [b] X.env = [(false, eval b X.env)] := by rfl) :
    PI X tg (.Call (.Name "range" p0) [a, b] [] pos) (tI X.K g (.rng ia (.so ib))) := sni_rng2 (gl_of hg) (cx.bl _ hm) ha hb hs hs2
/-! ### targets -/
theorem g_var (cx : Cn X g d fs bl cs) (i : Nat) (hN : X.N[i]? = some x := by rfl) (hx : locB X.env.scope x = true := by rfl) (hf : (X.fn x || lclB X.env.scope x) = true := by rfl) : PG X (.Name x pos) (gT X.K (.var i)) :=
  pg_name cx.nd hN (loc_of hx) (by
    rcases Bool.or_eq_true _ _ ▸ hf with h | h
    · exact .inl h
    · exact .inr (lcl_of h))
theorem gs_nil : PGs X [] (gNames []) := pgs_nil
theorem gs_cons {is : List Nat} (cx : Cn X g d fs bl cs) (i : Nat) (h : PGs X es (gNames is)) (hN : X.N[i]? = some x := by rfl) (hx : locB X.env.scope x = true := by rfl) (hf : (X.fn x || lclB X.env.scope x) = true := by rfl) (hs : (assignEach (.Name x pos :: es) X.env).map (·.2) = assign (.Name x pos) X.env :: (assignEach es X.env).map (·.2) := by rfl) :
    PGs X (.Name x pos :: es) (gNames (i :: is)) := pgs_cons (pg_name cx.nd hN (loc_of hx) (by
    rcases Bool.or_eq_true _ _ ▸ hf with h | h
    · exact .inl h
    · exact .inr (lcl_of h))) h hs
theorem g_tup {is : List Nat} {k : Nat} (cx : Cn X g d fs bl cs) (h : PGs X es (gNames is)) (hn : (assignEach es X.env).length = is.length := by rfl) (hst : (assignEach es X.env).findIdx? (·.1) = none := by rfl) : PG X (.Tuple es k pos) (gT X.K (.tup is)) := pg_tup cx.calm h hn hst
/-! ### comprehensions -/
theorem e_lc {elt iter : Expr} {ifs : List Expr} {scope : Scope} {own : List Nat} {tgi : Tg} {it : Ev.It} {cs' : Tts} {e : E} (cx : Cn X g d fs bl cs) (own' : List (Str × Nat))
    (hi : PI X tg iter (tI X.K g it))
    (hg : ∀ (s : Shared) (H : Hp) (C : Addr) (cl : List (Str × Addr)) (fp : List Addr), PG (X.blk s H scope (compEnvC scope cl C X.env) fp) tg (gT X.K tgi))
    (ht : ∀ (s : Shared) (H : Hp) (C : Addr) (cl : List (Str × Addr)) (fp : List Addr), PTs (X.blk s H scope (compEnvC scope cl C X.env) fp) ifs (tTs X.K g.mute cs'))
    (he : ∀ (s : Shared) (H : Hp) (C : Addr) (cl : List (Str × Addr)) (fp : List Addr), PE (X.blk s H scope (compEnvC scope cl C X.env) fp) elt (tE X.K g.mute e))
    (eo : own'.map (·.2) = own := by rfl) (ok : blkB X.N X.env.scope scope own' = true := by rfl) (hlen : allLt (tgs tgi) X.N.length = true := by rfl) (hs : ∀ x, foldedSetIterable iter X.env x = pure x := by exact fun _ => rfl) :
    PE X (.ListComp elt [⟨tg, iter, ifs, 0⟩] scope pos) (tE X.K g (.lc own tgi it cs' e)) := snd_lc eo cx.calm cx.nd hi (blk_of ok) (allLt_of hlen) hg ht he hs
theorem z_sc {elt iter : Expr} {ifs : List Expr} {scope : Scope} {own : List Nat} {tgi : Tg} {it : Ev.It} {cs' : Tts} {e : E} (cx : Cn X g d fs bl cs) (own' : List (Str × Nat))
    (hi : PI X tg iter (tI X.K g it))
    (hg : ∀ (s : Shared) (H : Hp) (C : Addr) (cl : List (Str × Addr)) (fp : List Addr), PG (X.blk s H scope (compEnvC scope cl C X.env) fp) tg (gT X.K tgi))
    (ht : ∀ (s : Shared) (H : Hp) (C : Addr) (cl : List (Str × Addr)) (fp : List Addr), PTs (X.blk s H scope (compEnvC scope cl C X.env) fp) ifs (tTs X.K g.mute cs'))
    (he : ∀ (s : Shared) (H : Hp) (C : Addr) (cl : List (Str × Addr)) (fp : List Addr), PE (X.blk s H scope (compEnvC scope cl C X.env) fp) elt (tE X.K g.mute e))
    (eo : own'.map (·.2) = own := by rfl) (ok : blkB X.N X.env.scope scope own' = true := by rfl) (hlen : allLt (tgs tgi) X.N.length = true := by rfl) (hs : ∀ x, foldedSetIterable iter X.env x = pure x := by exact fun _ => rfl) :
    PE X (.SetComp elt [⟨tg, iter, ifs, 0⟩] scope pos) (tZ X.K X.w g (.sc own tgi it cs' e)) := snz_sc eo cx.calm cx.nd hi (blk_of ok) (allLt_of hlen) hg ht he hs
theorem z_of (cx : Cn X g d fs bl cs) (ha : PE X a (tE X.K g ia)) (hg : glB X.env "set" = true := by rfl) (hm : bl.contains "set" = true := by rfl) (hs : starEach [a] X.env = (false, eval a X.env) :: starEach [] X.env := by rfl) : PE X (.Call (.Name "set" p0) [a] [] pos) (tZ X.K X.w g (.of ia)) :=
  snz_of rfl cx.calm (gl_of hg) (cx.bl _ hm) ha hs
variable {zz : Se}
theorem e_lenS (cx : Cn X g d fs bl cs) (ha : PE X a (tZ X.K X.w g zz)) (hg : glB X.env "len" = true := by rfl) (hm : bl.contains "len" = true := by rfl) (hs : starEach [a] X.env = (false, eval a X.env) :: starEach [] X.env := by rfl) : PE X (.Call (.Name "len" p0) [a] [] pos) (tE X.K g (.lenS zz)) :=
  snd_lenS rfl (gl_of hg) (cx.bl _ hm) ha hs
theorem e_srtS (cx : Cn X g d fs bl cs) (ha : PE X a (tZ X.K X.w g zz)) (hg : glB X.env "sorted" = true := by rfl) (hm : bl.contains "sorted" = true := by rfl) (hs : starEach [a] X.env = (false, eval a X.env) :: starEach [] X.env := by rfl) : PE X (.Call (.Name "sorted" p0) [a] [] pos) (tE X.K g (.srtS zz)) :=
  snd_srtS rfl cx.calm (gl_of hg) (cx.bl _ hm) ha hs
theorem e_lrng1 (cx : Cn X g d fs bl cs) (ha : PE X a (tE X.K g ia)) (hgl : glB X.env "list" = true := by rfl) (hml : bl.contains "list" = true := by rfl) (hgr : glB X.env "range" = true := by rfl) (hmr : bl.contains "range" = true := by rfl) (hs : starEach [a] X.env = (false, eval a X.env) :: starEach [] X.env := by rfl) :
    PE X (.Call (.Name "list" p1) [.Call (.Name "range" p2) [a] [] p0] [] pos) (tE X.K g (.lrng ia .no)) := snd_lrng1 cx.calm (gl_of hgl) (cx.bl _ hml) (gl_of hgr) (cx.bl _ hmr) ha hs
theorem e_lrng2 (cx : Cn X g d fs bl cs) (ha : PE X a (tE X.K g ia)) (hb : PE X b (tE X.K g ib)) (hgl : glB X.env "list" = true := by rfl) (hml : bl.contains "list" = true := by rfl) (hgr : glB X.env "range" = true := by rfl) (hmr : bl.contains "range" = true := by rfl) (hs : starEach [a, b] X.env = (false, eval a X.env) :: starEach [b] X.env := by rfl) (hs2 : starEach [b] X.env = (false, eval b X.env) :: starEach [] X.env := by rfl) :
    PE X (.Call (.Name "list" p1) [.Call (.Name "range" p2) [a, b] [] p0] [] pos) (tE X.K g (.lrng ia (.so ib))) := snd_lrng2 cx.calm (gl_of hgl) (cx.bl _ hml) (gl_of hgr) (cx.bl _ hmr) ha hb hs hs2
theorem e_lrng3 (cx : Cn X g d fs bl cs) (ha : PE X a (tE X.K g ia)) (hb : PE X b (tE X.K g ib)) (hc : PE X c (tE X.K g ic)) (hgl : glB X.env "list" = true := by rfl) (hml : bl.contains "list" = true := by rfl) (hgr : glB X.env "range" = true := by rfl) (hmr : bl.contains "range" = true := by rfl)
    (hs : starEach [a, b, c] X.env = (false, eval a X.env) :: starEach [b, c] X.env := by rfl) (hs2 : starEach [b, c] X.env = (false, eval b X.env) :: starEach [c] X.env := by rfl) (hs3 : starEach [c] X.env = (false, eval c X.env) :: starEach [] X.env := by rfl) (hpl : (backTo p0 (starEach [b, c] X.env)).any (·.1) = false := by rfl) :
    PE X (.Call (.Name "list" p1) [.Call (.Name "range" p2) [a, b, c] [] p0] [] pos) (tE X.K g (.lrng3 ia ib ic)) := snd_lrng3 cx.calm (gl_of hgl) (cx.bl _ hml) (gl_of hgr) (cx.bl _ hmr) ha hb hc hs hs2 hs3 hpl
/-! ### statements -/
variable {ks : List Nat} {s : S} {ss s1 s2 : Ss} {st : Stmt}
theorem s_asg (cx : Cn X g d fs bl cs) (i : Nat) (he : PE X a (tE X.K g ia)) (hi : X.N[i]? = some x := by rfl) (hx : locB X.env.scope x = true := by rfl) (hk : ks.contains i = false := by rfl) (hs : swapsWith a (some (.Name x p0)) pos.line X.env = pure false := by rfl) (hf : X.fn x = true := by rfl) :
    PS X (.Assign [.Name x p0] a pos) (tS X.K g ks (.asg i ia)) := sns_asg cx.nd hi (loc_of hx) he hk hs (.inl hf)
theorem s_asgLc {elt iter : Expr} {ifs : List Expr} {scope : Scope} {own : List Nat} {tgi : Tg} {it : Ev.It} {cs' : Tts} {e : E} (cx : Cn X g d fs bl cs) (i : Nat) (own' : List (Str × Nat))
    (hi : PI X tg iter (tI X.K g it))
    (hg : ∀ (s : Shared) (H : Hp) (C : Addr) (cl : List (Str × Addr)) (fp : List Addr), PG (X.blk s H scope (compEnvC scope cl C X.env) fp) tg (gT X.K tgi))
    (ht : ∀ (s : Shared) (H : Hp) (C : Addr) (cl : List (Str × Addr)) (fp : List Addr), PTs (X.blk s H scope (compEnvC scope cl C X.env) fp) ifs (tTs X.K g.mute cs'))
    (he : ∀ (s : Shared) (H : Hp) (C : Addr) (cl : List (Str × Addr)) (fp : List Addr), PE (X.blk s H scope (compEnvC scope cl C X.env) fp) elt (tE X.K g.mute e))
    (hN : X.N[i]? = some x := by rfl) (hyl : lclB X.env.scope x = true := by rfl) (hk : ks.contains i = false := by rfl) (hsw : swapsWith (.ListComp elt [⟨tg, iter, ifs, 0⟩] scope p1) (some (.Name x p0)) pos.line X.env = pure true := by rfl)
    (eo : own'.map (·.2) = own := by rfl) (ok : blkB X.N X.env.scope scope own' = true := by rfl) (hlen : allLt (tgs tgi) X.N.length = true := by rfl) (hs : ∀ x, foldedSetIterable iter X.env x = pure x := by exact fun _ => rfl) :
    PS X (.Assign [.Name x p0] (.ListComp elt [⟨tg, iter, ifs, 0⟩] scope p1) pos) (tS X.K g ks (.asg i (.lc own tgi it cs' e))) := sns_asgLc eo cx.calm cx.nd hN (lcl_of hyl) hk hsw hi (blk_of ok) (allLt_of hlen) hg ht he hs
theorem s_par2 {kt k2 : Nat} {pt2 : Pos} (cx : Cn X g d fs bl cs) (i j : Nat) (ha : PA X [a, b] (tEs X.K g is)) (hi : X.N[i]? = some x := by rfl) (hj : X.N[j]? = some y := by rfl) (hij : i ≠ j := by decide) (hx : lclB X.env.scope x = true := by rfl) (hy : lclB X.env.scope y = true := by rfl) (hki : ks.contains i = false := by rfl) (hkj : ks.contains j = false := by rfl)
    (hw : swappedStores [.Tuple [.Name x p0, .Name y p1] kt p2] (.Tuple [a, b] k2 pt2) X.env = pure (some [x, y]) := by rfl)
    (hs : swapsWithSole [.Tuple [.Name x p0, .Name y p1] kt p2] (.Tuple [a, b] k2 pt2) pos.line X.env = pure false := by rfl) :
    PS X (.Assign [.Tuple [.Name x p0, .Name y p1] kt p2] (.Tuple [a, b] k2 pt2) pos) (tS X.K g ks (.par [i, j] is)) := sns_par2 cx.calm cx.nd hi hj hij (lcl_of hx) (lcl_of hy) hki hkj ha hw hs
theorem s_par3 {kt k2 : Nat} {pt2 : Pos} (cx : Cn X g d fs bl cs) (i j l : Nat) (ha : PA X [a, b, c] (tEs X.K g is)) (hi : X.N[i]? = some x := by rfl) (hj : X.N[j]? = some y := by rfl) (hl : X.N[l]? = some z := by rfl) (hij : i ≠ j := by decide) (hil : i ≠ l := by decide) (hjl : j ≠ l := by decide)
    (hx : lclB X.env.scope x = true := by rfl) (hy : lclB X.env.scope y = true := by rfl) (hz : lclB X.env.scope z = true := by rfl) (hki : ks.contains i = false := by rfl) (hkj : ks.contains j = false := by rfl) (hkl : ks.contains l = false := by rfl)
    (hw : swappedStores [.Tuple [.Name x p0, .Name y p1, .Name z p2] kt p3] (.Tuple [a, b, c] k2 pt2) X.env = pure (some [x, y, z]) := by rfl)
    (hs : swapsWithSole [.Tuple [.Name x p0, .Name y p1, .Name z p2] kt p3] (.Tuple [a, b, c] k2 pt2) pos.line X.env = pure false := by rfl) :
    PS X (.Assign [.Tuple [.Name x p0, .Name y p1, .Name z p2] kt p3] (.Tuple [a, b, c] k2 pt2) pos) (tS X.K g ks (.par [i, j, l] is)) := sns_par3 cx.calm cx.nd hi hj hl hij hil hjl (lcl_of hx) (lcl_of hy) (lcl_of hz) hki hkj hkl ha hw hs
theorem s_asgT {is : List Nat} (he : PE X a (tE X.K g ia)) (hg : PG X tg (gT X.K (.tup is))) (hlen : allLt is X.N.length = true := by rfl) (hk : noneIn ks is = true := by rfl) (hs : swapsWithSole [tg] a pos.line X.env = pure false := by rfl) (hw : swappedStores [tg] a X.env = pure none := by rfl)
    (h1 : (assignEach [tg] X.env).map (·.2) = [assign tg X.env] := by rfl) : PS X (.Assign [tg] a pos) (tS X.K g ks (.asgT is ia)) := sns_asgT he hg (allLt_of hlen) (noneIn_of hk) hs hw h1
theorem s_expr (he : PE X a (tE X.K g ia)) (hs : swapsWith a none pos.line X.env = pure false := by rfl) : PS X (.Expr a pos) (tS X.K g ks (.expr ia)) := sns_expr he hs
theorem s_never : PS X st (tS X.K g ks .never) := ⟨fun _ _ _ _ _ _ ⟨Rt, env, A, rl, p⟩ => by
  have p' : PostS X.K g ks Rt _ _ A R.no _ := p
  exact p'.elim⟩
theorem s_retv (i : Nat) (hN : X.N[i]? = some x := by rfl) (hv : visB X.env.scope x = true := by rfl) (hx : okName x = true := by rfl) : PS X (.Return (some (.Name x p0)) pos) (tS X.K g ks (.retv i)) := sns_retv hN (vis_of hv) (okName_of hx).1 (okName_of hx).2.1
theorem s_app (i : Nat) (he : PE X a (tE X.K g ia)) (hN : X.N[i]? = some x := by rfl) (hv : visB X.env.scope x = true := by rfl) (hx : okName x = true := by rfl)
    (hbase : attributeBase (.Name x p0) "append" X.env (eval (.Name x p0) X.env) = eval (.Name x p0) X.env := by rfl)
    (hfew : ((backTo p2 (starEach [a] X.env)).all (fun x => !x.1) && (backToKw p2 (keywordEach [] X.env)).all (fun x => x.1.isSome)
      && decide ([a].length + ([] : List Keyword).length + (if ([] : List Keyword).isEmpty then 0 else 1) < 30)) = true := by rfl)
    (hline : (p1.endLine == p2.line) = true := by rfl) (hs : starEach [a] X.env = [(false, eval a X.env)] := by rfl)
    (hsw : swapsWith (.Call (.Attribute (.Name x p0) "append" p1) [a] [] p2) none pos.line X.env = pure false := by rfl) : PS X (.Expr (.Call (.Attribute (.Name x p0) "append" p1) [a] [] p2) pos) (tS X.K g ks (.app i ia)) :=
  sns_app hN (vis_of hv) (okName_of hx).1 (okName_of hx).2.1 he hbase hfew hline hs hsw
theorem s_setx (i : Nat) (hb : PE X b (tE X.K g ib)) (he : PE X a (tE X.K g ia)) (hN : X.N[i]? = some x := by rfl) (hv : visB X.env.scope x = true := by rfl) (hx : okName x = true := by rfl)
    (hsb : ∀ v, assign (.Subscript (.Name x p0) b p1) X.env v = (do
      let ov ← holding [v] (eval (.Name x p0) X.env)
      let iv ← holding [v, ov] (eval b X.env)
      standAt p1
      holding [v, ov, iv] (setItem ov iv v)
      release [v, ov, iv] []) := by exact fun _ => rfl)
    (hs : swapsWithSole [.Subscript (.Name x p0) b p1] a pos.line X.env = pure false := by rfl) (hw : swappedStores [.Subscript (.Name x p0) b p1] a X.env = pure none := by rfl)
    (h1 : (assignEach [.Subscript (.Name x p0) b p1] X.env).map (·.2) = [assign (.Subscript (.Name x p0) b p1) X.env] := by rfl) : PS X (.Assign [.Subscript (.Name x p0) b p1] a pos) (tS X.K g ks (.setx i ib ia)) :=
  sns_setx hN (vis_of hv) (okName_of hx).1 (okName_of hx).2.1 hb he hsb hs hw h1
theorem s_for {iter : Expr} {body : List Stmt} {tgi : Tg} {it : Ev.It} {sb : Ss} (cx : Cn X g d fs bl cs) (hp : PassesOwn (model X.prog X.w) X.A X.env X.xe) (hi : PI X tg iter (tI X.K g it)) (hg : PG X tg (gT X.K tgi)) (hb : PSs X body (tSs X.K g ks sb))
    (hlen : allLt (tgs tgi) X.N.length = true := by rfl) (hk : noneIn ks (tgs tgi) = true := by rfl) (hs : ∀ x, foldedSetIterable iter X.env x = pure x := by exact fun _ => rfl) : PS X (.For tg iter body [] pos) (tS X.K g ks (.for_ tgi it sb)) :=
  sns_for hp cx.calm hi hg hb (allLt_of hlen) (noneIn_of hk) hs
end
end Ev
set_option maxHeartbeats 4000000
/-! Ev16: the defs of a text together; the end. -/
namespace Ev
open PySem L2
/-- no exception is spoken of -/
def xr0 : XR := fun _ _ _ _ _ _ => False
theorem xm0 : ∀ c t H (av av' : Addr → Prop) cls d, (∀ b, av' b → av b) → xr0 c t H av cls d → xr0 c t H av' cls d := fun _ _ _ _ _ _ _ _ h => h
/-- constants by their numbers -/
def cstG (cs : List (Str × Int)) (i : Nat) : Option T := (cs[i]?).map fun p => .int p.2
section
variable {P : Program} {w : World} {K : PySem.W.Frag} {mg : Str → Option Value} {base : Heap} {x qual : Str} {params : Arguments} {body : List Stmt} {scope : Scope} {dvs : List V} {kws : List (Str × V)} {f : Addr} {fd : FuncData}
variable {fs : List (Str × List Nat × Nat)} {bl : List Str} {cs : List (Str × Int)} {tab : Nat → Option FD} {xr : XR} {xm : ∀ c t H (av av' : Addr → Prop) cls d, (∀ b, av' b → av b) → xr c t H av cls d → xr c t H av' cls d} {d : Nat}
/-- what the head tells of the module's names -/
structure Mg (mg : Str → Option Value) (bl : List Str) (cs : List (Str × Int)) : Prop where
  bl : ∀ x, bl.contains x = true → mg x = none
  ct : ∀ (i : Nat) (x : Str) (n : Int), cs[i]? = some (x, n) → ∃ t, mg x = some (.int n t)
theorem cn_of {N ps : List Str} {cdv : Value} {A : Around} {outer : List PySem.Env} {s : Shared} {H : Hp} {E : XK} (S : FnScope N ps scope) (M : Mg mg bl cs)
    (ih : ∀ i x io n, fs[i]? = some (x, io, n) → FnC P w K mg base xr (callN (cstG cs) tab d) d i x io n []) (hr : Room d (A.deeper (PyProof.Rows.envOfC qual scope s.heap.objs.size f cdv))) :
    Cn (cxOf (L2.CX P w) P w K mg base N qual scope f cdv A outer s H E) (gOf (cstG cs) (callN (cstG cs) tab d) xr xm E) d fs bl cs :=
  ⟨rfl, S.nd, hr.units, takes_of rfl rfl rfl rfl, hr, ih, M.bl, fun i x n h => ⟨by show (cs[i]?).map _ = _; rw [h]; rfl, M.ct i x n h⟩⟩
theorem own_of {N : List Str} {cdv : Value} {A : Around} {outer : List PySem.Env} {s : Shared} {H : Hp} {E : XK} : PassesOwn (model P w) (cxOf (L2.CX P w) P w K mg base N qual scope f cdv A outer s H E).A (cxOf (L2.CX P w) P w K mg base N qual scope f cdv A outer s H E).env (cxOf (L2.CX P w) P w K mg base N qual scope f cdv A outer s H E).xe :=
  passes_of (X := cxOf (L2.CX P w) P w K mg base N qual scope f cdv A outer s H E) rfl
theorem mkC {N ps : List Str} {i n : Nat} {io : List Nat} {fd0 : FD} (F : FunD K x qual params body scope [] kws f fd) (hm : mg x = some (.ref f)) (S : FnScope N ps scope)
    (ht : tab i = some fd0) (hnp : Nat.beq fd0.np ps.length = true) (hns : Nat.beq fd0.ns N.length = true) (hn : Nat.beq n ps.length = true) (ei : fd0.io = io) (hnd : fd0.io.Nodup) (hio : allLt fd0.io fd0.np = true)
    (bd : ∀ (kV doc pm : Value) (an : Option Addr) (cdv ct : Value) (us : List Value), us.length = ps.length → bindArgs (PySem.W.fnOf x qual params body scope .none kV doc pm an cdv ct) ⟨us, []⟩ = pure (ps.zip us))
    (hb : ∀ (cdv : Value) (A : Around) (outer : List PySem.Env) (s : Shared) (H : Hp) (E : XK), Room d (A.deeper (PyProof.Rows.envOfC qual scope s.heap.objs.size f cdv)) →
      PSs (cxOf (L2.CX P w) P w K mg base N qual scope f cdv A outer s H E) body (tSs K (gOf (cstG cs) (callN (cstG cs) tab d) xr xm E) fd0.io fd0.body)) :
    FnC P w K mg base xr (callN (cstG cs) tab (d + 1)) (d + 1) i x io n [] := by
  subst ei
  rw [Nat.eq_of_beq_eq_true hn]
  exact ⟨f, fd, ps, [], fn_succ F S ht (Nat.eq_of_beq_eq_true hnp) (Nat.eq_of_beq_eq_true hns) hnd (allLt_of hio) hb, hm, F.kp, F.bindsN bd, .nil⟩
theorem mkC0 {ps : List Str} {i n : Nat} {io : List Nat} (F : FunD K x qual params body scope [] kws f fd) (hm : mg x = some (.ref f)) (hn : Nat.beq n ps.length = true)
    (bd : ∀ (kV doc pm : Value) (an : Option Addr) (cdv ct : Value) (us : List Value), us.length = ps.length → bindArgs (PySem.W.fnOf x qual params body scope .none kV doc pm an cdv ct) ⟨us, []⟩ = pure (ps.zip us)) :
    FnC P w K mg base xr (callN (cstG cs) tab 0) 0 i x io n [] := by
  rw [Nat.eq_of_beq_eq_true hn]
  exact ⟨f, fd, ps, [], fn_zero rfl, hm, F.kp, F.bindsN bd, .nil⟩
/-- the end: the law's value is True -/
theorem end_of {C : Calls} {i : Nat} {H : Hp} {a : Addr} {ns : List Int} {o : List (Option W)} (hS : SqL K H a (ns.map V.int)) (e : C i [.val (.scr ns)] = .ok (.val (.bl true)) o) : spC K xr C i [] 1 [.ref a] H (fun v _ => v = .bl true) fun _ _ _ => False := by
  refine ⟨rfl, fun _ => False, [.val (.scr ns)], [], ⟨List.nodup_nil, fun b hb => (by cases hb), fun b z => z.elim, .ref a, [], [], [], rfl, rfl, ⟨rfl, a, rfl, ?_⟩, rfl, rfl⟩, ?_⟩
  · rcases hS with h | h
    · exact .inl ⟨h, fun z => z.elim (fun z => by cases z) id⟩
    · exact .inr (.inr h)
  · rw [e]
    exact fun v H' A' B sx ow => ow.2
/-- the same promise, more exceptions allowed -/
theorem fnOk_cx {CX CX' : CXT} {k : Nat} {ps : List Str} {sp : Sp} (F : FnOk P w K mg base CX k f fd ps sp) (h : ∀ o H s E e s', CX o H s E e s' → CX' o H s E e s') : FnOk P w K mg base CX' k f fd ps sp :=
  ⟨F.len, fun A outer s H args us vs Q E hr he hb hv hs => codeAny_mono (F.run A outer s H args us vs Q E hr he hb hv hs) fun r s' q => by
    cases r with
    | error e => exact h _ _ _ _ _ _ q
    | ok fl =>
      cases fl with
      | ret u => exact q
      | next => exact q
      | brk => exact q
      | cont => exact q⟩
/-- the exceptions of any world -/
def CXw (P : Program) : CXT := fun o H s E e s' => ∃ w, L2.CX P w o H s E e s'
theorem cxw_end (P : Program) (H : Hp) (s : Shared) (e : Value) (s' : Shared) (h : CXw P [] H s (fun _ _ _ => False) e s') : False := by
  obtain ⟨w, _, _, _, _, _, _, _, _, _, _, _, _, z⟩ := h
  exact z
theorem cx_end (P : Program) (w : World) (H : Hp) (s : Shared) (e : Value) (s' : Shared) (h : L2.CX P w [] H s (fun _ _ _ => False) e s') : False := by
  obtain ⟨_, _, _, _, _, _, _, _, _, _, _, _, z⟩ := h
  exact z
end
end Ev
set_option maxHeartbeats 4000000
/-! EvL: what the laws share: the pool of numbers; loops over trees. -/
namespace Ev
open PySem
def irTake : Ss := (.cons (.ife (.v (.cmp .Gt (.rdx 0 (.int 0)) (.int 0))) (.cons (.asg 2 (.op .Mod (.bi .int (.cons (.rdx 0 (.int 0)) .nil)) (.rd 1))) (.cons (.setx 0 (.int 0) (.op .FloorDiv (.rdx 0 (.int 0)) (.rd 1))) (.cons (.retv 2) .nil))) .nil) (.cons (.setx 0 (.int 1) (.op .Mod (.bi .int (.cons (.op .Add (.op .Mult (.rdx 0 (.int 1)) (.int 48271)) (.int 11)) .nil)) (.int 2147483647))) (.cons (.ret (.op .Mod (.op .FloorDiv (.op .Mod (.bi .int (.cons (.op .Mult (.rdx 0 (.int 1)) (.rdx 0 (.int 1))) .nil)) (.int 2147483629)) (.int 64)) (.rd 1))) .nil)))
def irPool : Ss := (.cons (.asg 2 (.ife (.v (.cmp .Lt (.rd 1) (.bi .len (.cons (.rd 0) .nil)))) (.ix (.rd 0) (.rd 1)) (.int 0))) (.cons (.asg 3 (.op .Mult (.bi .int (.cons (.op .Add (.op .Add (.op .Mod (.bi .int (.cons (.rd 2) .nil)) (.int 2147483629)) (.op .Mult (.op .Mult (.int 7919) (.rd 1)) (.rd 1))) (.int 13)) .nil)) (.int 48271))) (.cons (.ret (.lst (.cons (.ife (.v (.cmp .GtE (.rd 2) (.op .Pow (.int 10) (.int 18)))) (.rd 2) (.int 0)) (.cons (.op .Add (.op .Mod (.bi .int (.cons (.rd 3) .nil)) (.int 2147483647)) (.int 1)) .nil)))) .nil)))
theorem take1 (G : Nat → Option T) (C : Calls) (p0 p1 m : Int) (hp : 0 < p0) (hm : 0 < m) (hm' : m < 1073741824) :
    evSs G C irTake [some (.lst [.val (.int p0), .val (.int p1)]), some (.val (.int m)), none] = .ok (.rt (.val (.int (p0 % m)))) [some (.lst [.val (.int (p0 / m)), .val (.int p1)]), some (.val (.int m)), none] := by
  simp [irTake, evSs, evS, evE, evEs, evT, R.bind, R.of, W.fz, fzs, L2.atI, L2.ixN, cmpT, cmpI2, cmpInt, T.tru, opT, opInt, biT, intT, hp, hm, hm']
theorem take2 (G : Nat → Option T) (C : Calls) (p0 p1 q1 m : Int) (hp : p0 ≤ 0) (h1 : 0 ≤ p1) (h1' : p1 < 2147483648) (hm : 0 < m) (hm' : m < 1073741824) (eq : q1 = (p1 * 48271 + 11) % 2147483647) :
    evSs G C irTake [some (.lst [.val (.int p0), .val (.int p1)]), some (.val (.int m)), none] = .ok (.rt (.val (.int (q1 * q1 % 2147483629 / 64 % m)))) [some (.lst [.val (.int p0), .val (.int q1)]), some (.val (.int m)), none] := by
  have hp' : ¬ 0 < p0 := by omega
  have m1 : mulOk p1 48271 = true := by simp only [mulOk, Bool.or_eq_true, Bool.and_eq_true, decide_eq_true_eq]; omega
  have m2 : mulOk q1 q1 = true := by simp only [mulOk, Bool.or_eq_true, Bool.and_eq_true, decide_eq_true_eq]; omega
  subst eq
  simp [irTake, evSs, evS, evE, evEs, evT, R.bind, R.of, W.fz, fzs, L2.atI, L2.ixN, cmpT, cmpI2, cmpInt, T.tru, opT, opInt, biT, intT, hp', hm, hm', m1, m2]
/-- a pool: two numbers, the second in its bounds -/
def PoolW (p0 p1 : Int) : W := .lst [.val (.int p0), .val (.int p1)]
structure PoolOk (p1 : Int) : Prop where
  lo : 0 ≤ p1
  hi : p1 < 2147483648
theorem take_ev (G : Nat → Option T) (C : Calls) (p0 p1 m : Int) (h : PoolOk p1) (hm : 0 < m) (hm' : m < 1073741824) :
    ∃ r q0 q1, 0 ≤ r ∧ r < m ∧ PoolOk q1 ∧ evSs G C irTake [some (PoolW p0 p1), some (.val (.int m)), none] = .ok (.rt (.val (.int r))) [some (PoolW q0 q1), some (.val (.int m)), none] := by
  by_cases hp : 0 < p0
  · exact ⟨p0 % m, p0 / m, p1, Int.emod_nonneg _ (by omega), Int.emod_lt_of_pos _ hm, h, take1 G C p0 p1 m hp hm hm'⟩
  · exact ⟨_, p0, _, Int.emod_nonneg _ (by omega), Int.emod_lt_of_pos _ hm, ⟨by omega, by omega⟩, take2 G C p0 p1 _ m (by omega) h.lo h.hi hm hm' rfl⟩
theorem pool_ev (G : Nat → Option T) (C : Calls) (ns : List Int) (k : Int) (hk : 0 ≤ k) (hk' : k ≤ 1000) :
    ∃ p0 p1 env, PoolOk p1 ∧ evSs G C irPool [some (.val (.scr ns)), some (.val (.int k)), none, none] = .ok (.rt (PoolW p0 p1)) env := by
  have main : ∀ c : Int, (match (if k < (ns.length : Int) then L2.atI ns k else some 0) with | some c' => c' = c | none => False) → ∃ p0 p1 env, PoolOk p1 ∧ evSs G C irPool [some (.val (.scr ns)), some (.val (.int k)), none, none] = .ok (.rt (PoolW p0 p1)) env := by
    intro c hc
    have m1 : mulOk 7919 k = true := by simp only [mulOk, Bool.or_eq_true, Bool.and_eq_true, decide_eq_true_eq]; omega
    have m2 : mulOk (7919 * k) k = true := by simp only [mulOk, Bool.or_eq_true, Bool.and_eq_true, decide_eq_true_eq]; omega
    have m3 : mulOk (c % 2147483629 + 7919 * k * k + 13) 48271 = true := by simp only [mulOk, Bool.or_eq_true, Bool.and_eq_true, decide_eq_true_eq]; omega
    have m4 : mulOk (7919 * k * k + 13) 48271 = true := by simp only [mulOk, Bool.or_eq_true, Bool.and_eq_true, decide_eq_true_eq]; omega
    by_cases hl : k < (ns.length : Int)
    · rw [if_pos hl] at hc
      cases ea : L2.atI ns k with
      | none => rw [ea] at hc; exact hc.elim
      | some c' =>
        rw [ea] at hc
        have hc : c' = c := hc
        subst hc
        by_cases big : 1000000000000000000 ≤ c'
        · refine ⟨c', ((c' % 2147483629 + 7919 * k * k + 13) * 48271) % 2147483647 + 1, [some (.val (.scr ns)), some (.val (.int k)), some (.val (.int (c'))), some (.val (.int (((c' % 2147483629 + 7919 * k * k + 13) * 48271))))], ⟨by omega, by omega⟩, ?_⟩
          simp [irPool, evSs, evS, evE, evEs, evT, R.bind, R.of, W.fz, fzs, ixT, lenT, cmpT, cmpI2, cmpInt, T.tru, opT, opInt, biT, intT, m1, m2, m3, PoolW, hl, ea, big]
        · refine ⟨0, ((c' % 2147483629 + 7919 * k * k + 13) * 48271) % 2147483647 + 1, [some (.val (.scr ns)), some (.val (.int k)), some (.val (.int (c'))), some (.val (.int (((c' % 2147483629 + 7919 * k * k + 13) * 48271))))], ⟨by omega, by omega⟩, ?_⟩
          simp [irPool, evSs, evS, evE, evEs, evT, R.bind, R.of, W.fz, fzs, ixT, lenT, cmpT, cmpI2, cmpInt, T.tru, opT, opInt, biT, intT, m1, m2, m3, PoolW, hl, ea, big]
    · rw [if_neg hl] at hc
      have hc : (0 : Int) = c := hc
      subst hc
      refine ⟨0, (((0 : Int) % 2147483629 + 7919 * k * k + 13) * 48271) % 2147483647 + 1, [some (.val (.scr ns)), some (.val (.int k)), some (.val (.int (0))), some (.val (.int ((((0 : Int) % 2147483629 + 7919 * k * k + 13) * 48271))))], ⟨by omega, by omega⟩, ?_⟩
      simp [irPool, evSs, evS, evE, evEs, evT, R.bind, R.of, W.fz, fzs, ixT, lenT, cmpT, cmpI2, cmpInt, T.tru, opT, opInt, biT, intT, m1, m2, m3, m4, PoolW, hl]
  by_cases hl : k < (ns.length : Int)
  · have : ∃ c, L2.atI ns k = some c := by
      unfold L2.atI L2.ixN
      rw [if_pos hk, if_pos hl]
      have : k.toNat < ns.length := by omega
      exact ⟨ns[k.toNat], List.getElem?_eq_getElem this⟩
    obtain ⟨c, ec⟩ := this
    exact main c (by rw [if_pos hl, ec])
  · exact main 0 (by rw [if_neg hl])
end Ev
set_option maxHeartbeats 4000000
/-! EvQ: the equations of the evaluator, one a constructor. -/
namespace Ev
open PySem L2
section
variable {G : Nat → Option T} {C : Calls} {env : Env}
theorem qE_int {i} : evE G C (.int i) env = (.ok (.val (.int i)) env : R (W)) := rfl
theorem qE_bl {b} : evE G C (.bl b) env = (.ok (.val (.bl b)) env : R (W)) := rfl
theorem qE_non : evE G C (.non) env = (.ok (.val .non) env : R (W)) := rfl
theorem qE_str {x} : evE G C (.str x) env = (.ok (.val (.str x)) env : R (W)) := rfl
theorem qE_cst {g} : evE G C (.cst g) env = (R.of ((G g).map .val) env : R (W)) := rfl
theorem qE_rd {i} : evE G C (.rd i) env = ((match env[i]? with
    | some (some w) => .ok (.val w.fz) (env.set i (some (.val w.fz)))
    | _ => .no) : R (W)) := rfl
theorem qE_rdx {i} {e} : evE G C (.rdx i e) env = ((match env[i]? with
    | some (some _) => (evE G C e env).bind fun k env1 => (match env1[i]? with
      | some (some (.val a)) => R.of ((ixT a k.fz).map .val) env1
      | some (some (.lst ws)) => (match k.fz with
        | .int j => (match atI ws j with
          | some (.val t) => .ok (.val t) env1
          | _ => .no)
        | _ => .no)
      | _ => .no)
    | _ => .no) : R (W)) := rfl
theorem qE_op {o} {a} {b} : evE G C (.op o a b) env = ((evE G C a env).bind fun x env1 => (evE G C b env1).bind fun y env2 => R.of (opT o x.fz y.fz) env2 : R (W)) := rfl
theorem qE_neg {a} : evE G C (.neg a) env = ((evE G C a env).bind fun x env1 => (match x.fz with
    | .int i => .ok (.val (.int (-i))) env1
    | _ => .no) : R (W)) := rfl
theorem qE_cmp {o : CmpOp} {a} {b} : evE G C (.cmp o a b) env = ((evE G C a env).bind fun x env1 => (evE G C b env1).bind fun y env2 => R.of ((cmpT o x.fz y.fz).map fun b => .val (.bl b)) env2 : R (W)) := rfl
theorem qE_chn {o : CmpOp} {o' : CmpOp} {a} {b} {c} : evE G C (.chn o o' a b c) env = ((evE G C a env).bind fun x env1 => (evE G C b env1).bind fun y env2 => (match cmpT o x.fz y.fz with
    | some true => (evE G C c env2).bind fun z env3 => R.of ((cmpT o' y.fz z.fz).map fun b => .val (.bl b)) env3
    | some false => .ok (.val (.bl false)) env2
    | none => .no) : R (W)) := rfl
theorem qE_one {a} : evE G C (.one a) env = (evE G C a env : R (W)) := rfl
theorem qE_and {a} {b} : evE G C (.and a b) env = ((evE G C a env).bind fun x env1 => (match x.fz with
    | .bl true => evE G C b env1
    | .bl false => .ok (.val (.bl false)) env1
    | _ => .no) : R (W)) := rfl
theorem qE_or {a} {b} : evE G C (.or a b) env = ((evE G C a env).bind fun x env1 => (match x.fz with
    | .bl true => .ok (.val (.bl true)) env1
    | .bl false => evE G C b env1
    | _ => .no) : R (W)) := rfl
theorem qE_not {a} : evE G C (.not a) env = ((evE G C a env).bind fun x env1 => (match x.fz with
    | .bl b => .ok (.val (.bl (!b))) env1
    | _ => .no) : R (W)) := rfl
theorem qE_ife {c} {a} {b} : evE G C (.ife c a b) env = ((evT G C c env).bind fun k env1 => (match k with
    | true => evE G C a env1
    | false => evE G C b env1) : R (W)) := rfl
theorem qE_tup {es} : evE G C (.tup es) env = ((evEs G C es env).bind fun ws env1 => if decide (ws.length ≤ 16777216) then .ok (.val (.tup (fzs ws))) env1 else .no : R (W)) := rfl
theorem qE_lst {es} : evE G C (.lst es) env = ((evEs G C es env).bind fun ws env1 => if decide (ws.length ≤ 16777216) then .ok (.lst ws) env1 else .no : R (W)) := rfl
theorem qE_ix {a} {i} : evE G C (.ix a i) env = ((evE G C a env).bind fun x env1 => (evE G C i env1).bind fun y env2 => R.of ((ixT x.fz y.fz).map .val) env2 : R (W)) := rfl
theorem qE_sl {a} {lo} {hi} : evE G C (.sl a lo hi) env = ((evE G C a env).bind fun x env1 => (evO G C lo env1).bind fun l env2 => (evO G C hi env2).bind fun h env3 => R.of (slT x.fz l h) env3 : R (W)) := rfl
theorem qE_bi {b} {es} : evE G C (.bi b es) env = ((evEs G C es env).bind fun ws env1 => R.of (biT b (fzs ws)) env1 : R (W)) := rfl
theorem qE_isi {a} {c} : evE G C (.isi a c) env = ((evE G C a env).bind fun x env1 => R.of ((isiT [c] x.fz).map fun b => .val (.bl b)) env1 : R (W)) := rfl
theorem qE_isis {a} {cs} : evE G C (.isis a cs) env = ((evE G C a env).bind fun x env1 => R.of ((isiT cs x.fz).map fun b => .val (.bl b)) env1 : R (W)) := rfl
theorem qE_call {f} {as} {ds} : evE G C (.call f as ds) env = ((evA G C as env).bind fun ws env1 => (match C f (ws.1 ++ ds.map .val) with
    | .ok w outs => .ok w (backO ws.2 outs env1)
    | .exc c t outs => .exc c t (backO ws.2 outs env1)
    | .no => .no) : R (W)) := rfl
theorem qE_callk {f} {as} {ks} : evE G C (.callk f as ks) env = ((evA G C as env).bind fun ws env1 => (evA G C ks env1).bind fun us env2 => (match C f (ws.1 ++ us.1) with
    | .ok w outs => .ok w (backO ws.2 outs env2)
    | .exc c t outs => .exc c t (backO ws.2 outs env2)
    | .no => .no) : R (W)) := rfl
theorem qE_lc {own} {tg} {it} {cs} {e} : evE G C (.lc own tg it cs e) env = ((evI G C it env).bind fun ts env1 => if hidOk env1 own && tgIn tg own then (match lcL tg own (evTs G C cs) (evE G C e) ts [] (wipeE env1 own) with
    | .ok ws env2 => .ok (.lst ws) (backE env1 env2 own)
    | _ => .no) else .no : R (W)) := rfl
theorem qE_lenS {z} : evE G C (.lenS z) env = ((evSe G C z env).bind fun is env1 => .ok (.val (.int is.length)) env1 : R (W)) := rfl
theorem qE_srtS {z} : evE G C (.srtS z) env = ((evSe G C z env).bind fun is env1 => if decide (is.length < 64) then .ok (.lst ((sortI is).map fun i => .val (.int i))) env1 else .no : R (W)) := rfl
theorem qE_lrng3 {a} {b} {c} : evE G C (.lrng3 a b c) env = ((evE G C a env).bind fun x env1 => (evE G C b env1).bind fun y env2 => (evE G C c env2).bind fun z env3 => R.of ((rng3T x.fz y.fz z.fz).map fun is => .lst (is.map fun i => .val (.int i))) env3 : R (W)) := rfl
theorem qE_rev {a} : evE G C (.rev a) env = ((evE G C a env).bind fun x env1 => R.of (revT x.fz) env1 : R (W)) := rfl
theorem qE_lrng {a} {b} : evE G C (.lrng a b) env = ((evE G C a env).bind fun x env1 => (evO G C b env1).bind fun y env2 => R.of ((rngT x.fz y).map fun is => .lst (is.map fun i => .val (.int i))) env2 : R (W)) := rfl
theorem qSe_sc {own} {tg} {it} {cs} {e} : evSe G C (.sc own tg it cs e) env = ((evI G C it env).bind fun ts env1 => if hidOk env1 own && tgIn tg own then (match scL tg own (evTs G C cs) (evE G C e) ts [] (wipeE env1 own) with
    | .ok is env2 => .ok is (backE env1 env2 own)
    | _ => .no) else .no : R (List Int)) := rfl
theorem qSe_of {e} : evSe G C (.of e) env = ((evE G C e env).bind fun w env1 => (match w.fz with
    | .lst ts => (match T.ints ts with
      | some is => if decide (is.length < 4095) then .ok (dedI [] is) env1 else .no
      | none => .no)
    | _ => .no) : R (List Int)) := rfl
theorem qEs_nil : evEs G C (.nil) env = (.ok [] env : R (List W)) := rfl
theorem qEs_cons {e} {es} : evEs G C (.cons e es) env = ((evE G C e env).bind fun w env1 => (evEs G C es env1).bind fun ws env2 => .ok (w :: ws) env2 : R (List W)) := rfl
theorem qO_no : evO G C (.no) env = (.ok none env : R (Option Int)) := rfl
theorem qO_so {e} : evO G C (.so e) env = ((evE G C e env).bind fun w env1 => (match w.fz with
    | .int i => .ok (some i) env1
    | _ => .no) : R (Option Int)) := rfl
theorem qT_v {e} : evT G C (.v e) env = ((evE G C e env).bind fun w env1 => R.of w.fz.tru env1 : R (Bool)) := rfl
theorem qT_one {a} : evT G C (.one a) env = (evT G C a env : R (Bool)) := rfl
theorem qT_and {a} {b} : evT G C (.and a b) env = ((evT G C a env).bind fun k env1 => (match k with
    | true => evT G C b env1
    | false => .ok false env1) : R (Bool)) := rfl
theorem qT_or {a} {b} : evT G C (.or a b) env = ((evT G C a env).bind fun k env1 => (match k with
    | true => .ok true env1
    | false => evT G C b env1) : R (Bool)) := rfl
theorem qT_not {a} : evT G C (.not a) env = ((evT G C a env).bind fun k env1 => .ok (!k) env1 : R (Bool)) := rfl
theorem qTs_nil : evTs G C (.nil) env = (.ok true env : R (Bool)) := rfl
theorem qTs_cons {c} {cs} : evTs G C (.cons c cs) env = ((evT G C c env).bind fun k env1 => (match k with
    | true => evTs G C cs env1
    | false => .ok false env1) : R (Bool)) := rfl
theorem qI_e {e} : evI G C (.e e) env = ((evE G C e env).bind fun w env1 => (match w.fz with
    | .lst ts => .ok ts env1
    | .tup ts => .ok ts env1
    | _ => .no) : R (List T)) := rfl
theorem qI_rng {a} {b} : evI G C (.rng a b) env = ((evE G C a env).bind fun x env1 => (evO G C b env1).bind fun y env2 => R.of ((rngT x.fz y).map fun is => is.map .int) env2 : R (List T)) := rfl
theorem qA_nil : evA G C (.nil) env = (.ok ([], []) env : R (List W × List Nat)) := rfl
theorem qA_cons {e} {as} : evA G C (.cons e as) env = ((evE G C e env).bind fun w env1 => (evA G C as env1).bind fun r env2 => .ok (.val w.fz :: r.1, r.2) env2 : R (List W × List Nat)) := rfl
theorem qA_io {i} {as} : evA G C (.io i as) env = ((match env[i]? with
    | some (some w) => (evA G C as (env.set i none)).bind fun r env2 => .ok (w :: r.1, i :: r.2) env2
    | _ => .no) : R (List W × List Nat)) := rfl
theorem qS_asg {i} {e} : evS G C (.asg i e) env = ((evE G C e env).bind fun w env1 => .ok .nx (env1.set i (some w)) : R (F)) := rfl
theorem qS_asgT {is} {e} : evS G C (.asgT is e) env = ((evE G C e env).bind fun w env1 => (match tgE (.tup is) w.fz env1 with
    | some env2 => .ok .nx env2
    | none => .no) : R (F)) := rfl
theorem qS_par {is} {es} : evS G C (.par is es) env = ((evEs G C es env).bind fun ws env1 => if is.length = ws.length then .ok .nx ((is.zip ws).foldl (fun e p => e.set p.1 (some p.2)) env1) else .no : R (F)) := rfl
theorem qS_setx {i} {k} {e} : evS G C (.setx i k e) env = ((evE G C e env).bind fun w env1 => (match env1[i]? with
    | some (some (.lst _)) => (evE G C k env1).bind fun y env2 => (match env2[i]? with
      | some (some (.lst ws)) => (match y.fz with
        | .int j => (match L2.ixN ws.length j with
          | some n => .ok .nx (env2.set i (some (.lst (ws.set n w))))
          | none => .no)
        | _ => .no)
      | _ => .no)
    | _ => .no) : R (F)) := rfl
theorem qS_app {i} {e} : evS G C (.app i e) env = ((match env[i]? with
    | some (some (.lst _)) => (evE G C e env).bind fun w env1 => (match env1[i]? with
      | some (some (.lst ws)) => if decide (ws.length < 16777216) then .ok .nx (env1.set i (some (.lst (ws ++ [w])))) else .no
      | _ => .no)
    | _ => .no) : R (F)) := rfl
theorem qS_expr {e} : evS G C (.expr e) env = ((evE G C e env).bind fun _ env1 => .ok .nx env1 : R (F)) := rfl
theorem qS_ret {e} : evS G C (.ret e) env = ((evE G C e env).bind fun w env1 => .ok (.rt w) env1 : R (F)) := rfl
theorem qS_retv {i} : evS G C (.retv i) env = ((match env[i]? with
    | some (some w) => .ok (.rt w) (env.set i none)
    | _ => .no) : R (F)) := rfl
theorem qS_retn : evS G C (.retn) env = (.ok (.rt (.val .non)) env : R (F)) := rfl
theorem qS_ife {c} {a} {b} : evS G C (.ife c a b) env = ((evT G C c env).bind fun k env1 => (match k with
    | true => evSs G C a env1
    | false => evSs G C b env1) : R (F)) := rfl
theorem qS_for {tg} {it} {b} : evS G C (.for_ tg it b) env = ((evI G C it env).bind fun ts env1 => forL tg (evSs G C b) ts env1 : R (F)) := rfl
theorem qS_pass : evS G C (.pass) env = (.ok .nx env : R (F)) := rfl
theorem qS_never : evS G C (.never) env = (.no : R (F)) := rfl
theorem qSs_nil : evSs G C (.nil) env = (.ok .nx env : R (F)) := rfl
theorem qSs_cons {s} {ss} : evSs G C (.cons s ss) env = ((evS G C s env).bind fun f env1 => (match f with
    | .nx => evSs G C ss env1
    | f => .ok f env1)
 : R (F)) := rfl
end
end Ev
set_option maxHeartbeats 4000000
/-! EvM: loops and calls of the evaluator, as equations. -/
namespace Ev
open PySem
theorem set_back {α : Type} {l : List α} {i : Nat} {x y : α} (h : l[i]? = some y) : (l.set i x).set i y = l := by
  rw [List.set_set]
  exact set_same h
theorem fzs_iv : ∀ is : List Int, fzs (is.map fun i => W.val (.int i)) = is.map .int
  | [] => rfl
  | i :: r => congrArg (T.int i :: ·) (fzs_iv r)
theorem fzs_map {α : Type} (f : α → W) : ∀ xs : List α, fzs (xs.map f) = xs.map fun a => (f a).fz
  | [] => rfl
  | a :: r => congrArg ((f a).fz :: ·) (fzs_map f r)
theorem fzs_val : ∀ ts : List T, fzs (ts.map W.val) = ts
  | [] => rfl
  | t :: r => congrArg (t :: ·) (fzs_val r)
theorem ints_map : ∀ is : List Int, T.ints (is.map .int) = some is
  | [] => rfl
  | i :: r => by
    show (T.ints (r.map .int)).map (i :: ·) = _
    rw [ints_map r]
    rfl
theorem bls_map : ∀ is : List Bool, T.bls (is.map .bl) = some is
  | [] => rfl
  | i :: r => by
    show (T.bls (r.map .bl)).map (i :: ·) = _
    rw [bls_map r]
    rfl
section
variable {α : Type} {e : α → T} {p : α → Bool} {f : α → W} {i : Nat} {test : Env → R Bool} {elt : Env → R W} {env : Env}
theorem hid_one {t : T} (h : i < env.length) : hidOk (env.set i (some (.val t))) [i] = true := by
  simp [hidOk, h]
theorem lcL_eq (hi : env[i]? = some none) : ∀ (xs : List α) (acc : List W), acc.length + xs.length ≤ 16777216 →
    (∀ a ∈ xs, test (env.set i (some (.val (e a)))) = .ok (p a) (env.set i (some (.val (e a)))) ∧ (p a = true → elt (env.set i (some (.val (e a)))) = .ok (f a) (env.set i (some (.val (e a)))))) →
    lcL (.var i) [i] test elt (xs.map e) acc env = .ok (acc ++ (xs.filter p).map f) env
  | [], acc, _, _ => by simp [lcL]
  | a :: r, acc, hl, h => by
    have hlt : i < env.length := (List.getElem?_eq_some_iff.mp hi).1
    obtain ⟨h1, h2⟩ := h a List.mem_cons_self
    have hr := fun acc' hl' => lcL_eq hi r acc' hl' fun b hb => h b (List.mem_cons_of_mem _ hb)
    rw [List.length_cons] at hl
    have hw : wipeE (env.set i (some (.val (e a)))) [i] = env := set_back hi
    show (match (if i < env.length then some (env.set i (some (.val (e a)))) else none) with
      | none => R.no
      | some env1 => _) = _
    rw [if_pos hlt]
    show ((test (env.set i (some (.val (e a))))).bind _) = _
    rw [h1]
    cases hp : p a with
    | true =>
      show ((elt (env.set i (some (.val (e a))))).bind _) = _
      rw [h2 hp]
      show (if (decide (acc.length < 16777216) && hidOk (env.set i (some (.val (e a)))) [i]) = true then lcL (.var i) [i] test elt (r.map e) (acc ++ [f a]) (wipeE (env.set i (some (.val (e a)))) [i]) else R.no) = _
      rw [hid_one hlt, hw, if_pos (by rw [Bool.and_true]; exact decide_eq_true (by omega)), hr _ (by rw [List.length_append, List.length_singleton]; omega), List.filter_cons_of_pos hp, List.map_cons, List.append_assoc]
      rfl
    | false =>
      show (if hidOk (env.set i (some (.val (e a)))) [i] = true then lcL (.var i) [i] test elt (r.map e) acc (wipeE (env.set i (some (.val (e a)))) [i]) else R.no) = _
      rw [hid_one hlt, hw, if_pos rfl, hr _ (by omega), List.filter_cons_of_neg (by rw [hp]; decide)]
theorem lcL_all (hi : env[i]? = some none) (xs : List α) (hl : xs.length ≤ 16777216) (ht : ∀ a ∈ xs, test (env.set i (some (.val (e a)))) = .ok true (env.set i (some (.val (e a))))) (he : ∀ a ∈ xs, elt (env.set i (some (.val (e a)))) = .ok (f a) (env.set i (some (.val (e a))))) :
    lcL (.var i) [i] test elt (xs.map e) [] env = .ok (xs.map f) env := by
  rw [lcL_eq (p := fun _ => true) (f := f) hi xs [] (by simpa using hl) fun a ha => ⟨ht a ha, fun _ => he a ha⟩, List.filter_eq_self.mpr fun _ _ => rfl]
  try rfl
theorem scL_eq {f : α → Int} (hi : env[i]? = some none) : ∀ (xs : List α) (acc : List Int), acc.length + xs.length ≤ 4095 →
    (∀ a ∈ xs, test (env.set i (some (.val (e a)))) = .ok (p a) (env.set i (some (.val (e a)))) ∧ (p a = true → elt (env.set i (some (.val (e a)))) = .ok (.val (.int (f a))) (env.set i (some (.val (e a)))))) →
    scL (.var i) [i] test elt (xs.map e) acc env = .ok (dedI acc ((xs.filter p).map f)) env
  | [], acc, _, _ => by simp [scL, dedI]
  | a :: r, acc, hl, h => by
    have hlt : i < env.length := (List.getElem?_eq_some_iff.mp hi).1
    obtain ⟨h1, h2⟩ := h a List.mem_cons_self
    have hr := fun acc' hl' => scL_eq hi r acc' hl' fun b hb => h b (List.mem_cons_of_mem _ hb)
    rw [List.length_cons] at hl
    have hw : wipeE (env.set i (some (.val (e a)))) [i] = env := set_back hi
    show (match (if i < env.length then some (env.set i (some (.val (e a)))) else none) with
      | none => R.no
      | some env1 => _) = _
    rw [if_pos hlt]
    show ((test (env.set i (some (.val (e a))))).bind _) = _
    rw [h1]
    cases hp : p a with
    | true =>
      show ((elt (env.set i (some (.val (e a))))).bind _) = _
      rw [h2 hp]
      show (if (decide (acc.length < 4095) && hidOk (env.set i (some (.val (e a)))) [i]) = true then scL (.var i) [i] test elt (r.map e) (addI acc (f a)) (wipeE (env.set i (some (.val (e a)))) [i]) else R.no) = _
      have := addI_len acc (f a)
      rw [hid_one hlt, hw, if_pos (by rw [Bool.and_true]; exact decide_eq_true (by omega)), hr _ (by omega), List.filter_cons_of_pos hp, List.map_cons]
      rfl
    | false =>
      show (if hidOk (env.set i (some (.val (e a)))) [i] = true then scL (.var i) [i] test elt (r.map e) acc (wipeE (env.set i (some (.val (e a)))) [i]) else R.no) = _
      rw [hid_one hlt, hw, if_pos rfl, hr _ (by omega), List.filter_cons_of_neg (by rw [hp]; decide)]
theorem scL_all {f : α → Int} (hi : env[i]? = some none) (xs : List α) (hl : xs.length ≤ 4095) (ht : ∀ a ∈ xs, test (env.set i (some (.val (e a)))) = .ok true (env.set i (some (.val (e a))))) (he : ∀ a ∈ xs, elt (env.set i (some (.val (e a)))) = .ok (.val (.int (f a))) (env.set i (some (.val (e a))))) :
    scL (.var i) [i] test elt (xs.map e) [] env = .ok (dedI [] (xs.map f)) env := by
  rw [scL_eq (p := fun _ => true) (f := f) hi xs [] (by simpa using hl) fun a ha => ⟨ht a ha, fun _ => he a ha⟩, List.filter_eq_self.mpr fun _ _ => rfl]
  try rfl
end
/-! ### comprehensions, loops -/
section
variable {G : Nat → Option T} {C : Calls} {env env1 env2 : Env} {own : List Nat} {tg : Tg} {it : It} {cs : Tts} {e : E} {ts : List T} {ws : List W} {is : List Int} {b : Ss}
theorem ev_rd {i : Nat} {t : T} (h : env[i]? = some (some (.val t))) : evE G C (.rd i) env = .ok (.val t) env := by
  rw [qE_rd, h]
  show R.ok (W.val t) (env.set i (some (.val t))) = _
  rw [set_same h]
theorem ev_lc (h1 : evI G C it env = .ok ts env1) (h2 : (hidOk env1 own && tgIn tg own) = true) (h3 : lcL tg own (evTs G C cs) (evE G C e) ts [] (wipeE env1 own) = .ok ws env2) : evE G C (.lc own tg it cs e) env = .ok (.lst ws) (backE env1 env2 own) := by
  rw [qE_lc, h1]
  show (if (hidOk env1 own && tgIn tg own) = true then _ else _) = _
  rw [if_pos h2, h3]
theorem ev_sc (h1 : evI G C it env = .ok ts env1) (h2 : (hidOk env1 own && tgIn tg own) = true) (h3 : scL tg own (evTs G C cs) (evE G C e) ts [] (wipeE env1 own) = .ok is env2) : evSe G C (.sc own tg it cs e) env = .ok is (backE env1 env2 own) := by
  rw [qSe_sc, h1]
  show (if (hidOk env1 own && tgIn tg own) = true then _ else _) = _
  rw [if_pos h2, h3]
theorem ev_for {r : R F} (h1 : evI G C it env = .ok ts env1) (h3 : forL tg (evSs G C b) ts env1 = r) : evS G C (.for_ tg it b) env = r := by
  rw [qS_for, h1]
  exact h3
end
/-! ### calls -/
section
variable {G : Nat → Option T} {tab : Nat → Option FD} {d i : Nat} {ws : List W} {fd : FD} {w : W} {env : Env}
theorem call_rt (ht : tab i = some fd) (hl : ws.length = fd.np) (h : evSs G (callN G tab d) fd.body (ws.map some ++ List.replicate (fd.ns - fd.np) none) = .ok (.rt w) env) : callN G tab (d + 1) i ws = .ok w (outE env fd.io) := by
  show (match tab i with | none => CR.no | some fd => _) = _
  rw [ht]
  show (if ws.length = fd.np then _ else _) = _
  rw [if_pos hl, h]
theorem call_nx (ht : tab i = some fd) (hl : ws.length = fd.np) (h : evSs G (callN G tab d) fd.body (ws.map some ++ List.replicate (fd.ns - fd.np) none) = .ok .nx env) : callN G tab (d + 1) i ws = .ok (.val .non) (outE env fd.io) := by
  show (match tab i with | none => CR.no | some fd => _) = _
  rw [ht]
  show (if ws.length = fd.np then _ else _) = _
  rw [if_pos hl, h]
end
end Ev
namespace Ev
open PySem
/-! ### equality of ints and of lists of ints -/
theorem pds_ints : ∀ is : List Int, pds (is.map .int) = some (is.map .int)
  | [] => rfl
  | i :: r => by
    show (match some (PyData.int i), pds (r.map .int) with | some d, some ds => some (d :: ds) | _, _ => none) = _
    rw [pds_ints r]
    rfl
theorem lay_ints : ∀ is : List Int, PyData.canLayAll0 (is.map .int) = true
  | [] => by simp only [List.map_nil, PyData.canLayAll0]
  | i :: r => by simp only [List.map_cons, PyData.canLayAll0, PyData.canLay0, lay_ints r, Bool.and_self]
theorem dep_ints : ∀ is : List Int, PyData.depthAll (is.map .int) = 0
  | [] => by simp only [List.map_nil, PyData.depthAll]
  | i :: r => by simp only [List.map_cons, PyData.depthAll, PyData.depth, dep_ints r, Nat.max_self]
theorem eqv_ints : ∀ is js : List Int, PyData.eqvAll (is.map .int) (js.map .int) = decide (is = js)
  | [], [] => by simp [PyData.eqvAll]
  | [], j :: js => by simp [PyData.eqvAll]
  | i :: is, [] => by simp [PyData.eqvAll]
  | i :: is, j :: js => by
    simp only [List.map_cons, PyData.eqvAll, PyData.eqv, eqv_ints is js]
    by_cases h : i = j <;> by_cases h2 : is = js <;> simp [h, h2]
theorem shaped_ints (is : List Int) : SeqAt.shaped (.list (is.map .int)) = true := by
  simp [SeqAt.shaped, PyData.canLay0, lay_ints, PyData.depth, dep_ints]
theorem shaped_int (i : Int) : SeqAt.shaped (.int i) = true := by simp [SeqAt.shaped, PyData.canLay0, PyData.depth]
theorem eqT_int (i j : Int) : eqT (.int i) (.int j) = some (decide (i = j)) := by
  show (if (SeqAt.shaped (.int i) && SeqAt.shaped (.int j)) = true then some (PyData.eqv (.int i) (.int j)) else none) = _
  rw [shaped_int, shaped_int, Bool.and_self, if_pos rfl]
  have : PyData.eqv (.int i) (.int j) = (i == j) := by simp only [PyData.eqv]
  rw [this]
  rfl
theorem eqT_ints (is js : List Int) : eqT (.lst (is.map .int)) (.lst (js.map .int)) = some (decide (is = js)) := by
  unfold eqT
  have h : ∀ l : List Int, (T.lst (l.map .int)).pd = some (.list (l.map .int)) := fun l => by
    show (pds (l.map .int)).map PyData.list = _
    rw [pds_ints]
    rfl
  rw [h, h]
  show (if (SeqAt.shaped (.list (is.map .int)) && SeqAt.shaped (.list (js.map .int))) = true then some (PyData.eqv (.list (is.map .int)) (.list (js.map .int))) else none) = _
  rw [shaped_ints, shaped_ints, Bool.and_self, if_pos rfl]
  congr 1
  simp only [PyData.eqv]
  exact eqv_ints is js
end Ev
set_option maxHeartbeats 0
namespace Zk69
open PySem L2 Ev
def top (i : Nat) : Stmt := PySem.Challenge.pw_markedregions_k69_whole_sizes_by_all_set.main.body.getD i (.Pass ⟨0, 0, 0, 0⟩)
def fs : List (Str × List Nat × Nat) := [("is_integer", [], 1), ("is_between", [], 3), ("is_row", [], 1), ("check_number", [], 3), ("check_store", [], 3), ("check_written", [], 2), ("touched", [], 3), ("length_of", [], 3), ("copied", [], 3), ("raised", [], 2), ("least_touched", [], 3), ("most_touched", [], 3), ("least_copied", [], 3), ("most_copied", [], 3), ("packed", [], 3), ("spread", [], 3), ("_law_pool", [], 2), ("_law_take", [0], 2), ("_law_sets", [], 2), ("_law_copied", [], 3), ("_law_is_set", [], 3), ("_law_row_right", [0], 4), ("law", [], 1)]
def cs : List (Str × Int) := [("MOST", 10000)]
def bl : List Str := ["all", "bool", "int", "isinstance", "len", "list", "max", "min", "range", "set", "sorted", "sum", "tuple"]
abbrev st0 : Stmt := top 1
abbrev N0 : List Str := ["thing"]
/-- is_integer -/
def ir0 : Ss := (.cons (.ret (.and (.isi (.rd 0) .int) (.one (.not (.isi (.rd 0) .bool))))) .nil)
def fd0 : FD := ⟨1, 1, [], ir0⟩
abbrev st1 : Stmt := top 2
abbrev N1 : List Str := ["thing", "least", "most"]
/-- is_between -/
def ir1 : Ss := (.cons (.ret (.and (.call 0 (.cons (.rd 0) .nil) []) (.one (.chn .LtE .LtE (.rd 1) (.rd 0) (.rd 2))))) .nil)
def fd1 : FD := ⟨3, 3, [], ir1⟩
abbrev st2 : Stmt := top 3
abbrev N2 : List Str := ["thing"]
/-- is_row -/
def ir2 : Ss := (.cons (.ret (.isis (.rd 0) [.list, .tuple])) .nil)
def fd2 : FD := ⟨1, 1, [], ir2⟩
abbrev st3 : Stmt := top 9
abbrev N3 : List Str := ["thing", "least", "most"]
/-- check_number -/
def ir3 : Ss := (.cons (.ife (.not (.v (.call 1 (.cons (.rd 0) (.cons (.rd 1) (.cons (.rd 2) .nil))) []))) (.cons .never .nil) .nil) .nil)
def fd3 : FD := ⟨3, 3, [], ir3⟩
abbrev st4 : Stmt := top 10
abbrev N4 : List Str := ["blocks", "size", "many"]
/-- check_store -/
def ir4 : Ss := (.cons (.expr (.call 3 (.cons (.rd 0) (.cons (.int 1) (.cons (.cst 0) .nil))) [])) (.cons (.expr (.call 3 (.cons (.rd 1) (.cons (.int 1) (.cons (.cst 0) .nil))) [])) (.cons (.expr (.call 3 (.cons (.rd 2) (.cons (.int 1) (.cons (.rd 0) .nil))) [])) .nil)))
def fd4 : FD := ⟨3, 3, [], ir4⟩
abbrev st5 : Stmt := top 11
abbrev N5 : List Str := ["blocks", "written", "block"]
/-- check_written -/
def ir5 : Ss := (.cons (.ife (.or (.not (.v (.call 2 (.cons (.rd 1) .nil) []))) (.one (.not (.v (.bi .all (.cons (.lc [2] (.var 2) (.e (.rd 1)) .nil (.call 1 (.cons (.rd 2) (.cons (.int 0) (.cons (.op .Sub (.rd 0) (.int 1)) .nil))) [])) .nil)))))) (.cons .never .nil) .nil) (.cons (.ife (.v (.cmp .Lt (.lenS (.sc [2] (.var 2) (.e (.rd 1)) .nil (.rd 2))) (.bi .len (.cons (.rd 1) .nil)))) (.cons .never .nil) .nil) .nil))
def fd5 : FD := ⟨2, 3, [], ir5⟩
abbrev st6 : Stmt := top 12
abbrev N6 : List Str := ["blocks", "size", "written", "block"]
/-- touched -/
def ir6 : Ss := (.cons (.expr (.call 3 (.cons (.rd 0) (.cons (.int 1) (.cons (.cst 0) .nil))) [])) (.cons (.expr (.call 3 (.cons (.rd 1) (.cons (.int 1) (.cons (.cst 0) .nil))) [])) (.cons (.expr (.call 5 (.cons (.rd 0) (.cons (.rd 2) .nil)) [])) (.cons (.ret (.srtS (.sc [3] (.var 3) (.e (.rd 2)) .nil (.op .FloorDiv (.bi .int (.cons (.rd 3) .nil)) (.rd 1))))) .nil))))
def fd6 : FD := ⟨3, 4, [], ir6⟩
abbrev st7 : Stmt := top 13
abbrev N7 : List Str := ["blocks", "size", "region"]
/-- length_of -/
def ir7 : Ss := (.cons (.ret (.bi .min (.cons (.bi .int (.cons (.rd 1) .nil)) (.cons (.op .Sub (.bi .int (.cons (.rd 0) .nil)) (.op .Mult (.bi .int (.cons (.rd 2) .nil)) (.bi .int (.cons (.rd 1) .nil)))) .nil)))) .nil)
def fd7 : FD := ⟨3, 3, [], ir7⟩
abbrev st8 : Stmt := top 14
abbrev N8 : List Str := ["blocks", "size", "written", "region"]
/-- copied -/
def ir8 : Ss := (.cons (.ret (.bi .sum (.cons (.lc [3] (.var 3) (.e (.call 6 (.cons (.rd 0) (.cons (.rd 1) (.cons (.rd 2) .nil))) [])) .nil (.call 7 (.cons (.rd 0) (.cons (.rd 1) (.cons (.rd 3) .nil))) [])) .nil))) .nil)
def fd8 : FD := ⟨3, 4, [], ir8⟩
abbrev st9 : Stmt := top 15
abbrev N9 : List Str := ["number", "size"]
/-- raised -/
def ir9 : Ss := (.cons (.ret (.op .FloorDiv (.op .Sub (.op .Add (.rd 0) (.rd 1)) (.int 1)) (.rd 1))) .nil)
def fd9 : FD := ⟨2, 2, [], ir9⟩
abbrev st10 : Stmt := top 16
abbrev N10 : List Str := ["blocks", "size", "many"]
/-- least_touched -/
def ir10 : Ss := (.cons (.expr (.call 4 (.cons (.rd 0) (.cons (.rd 1) (.cons (.rd 2) .nil))) [])) (.cons (.ret (.call 9 (.cons (.rd 2) (.cons (.rd 1) .nil)) [])) .nil))
def fd10 : FD := ⟨3, 3, [], ir10⟩
abbrev st11 : Stmt := top 17
abbrev N11 : List Str := ["blocks", "size", "many"]
/-- most_touched -/
def ir11 : Ss := (.cons (.expr (.call 4 (.cons (.rd 0) (.cons (.rd 1) (.cons (.rd 2) .nil))) [])) (.cons (.ret (.bi .min (.cons (.bi .int (.cons (.rd 2) .nil)) (.cons (.call 9 (.cons (.rd 0) (.cons (.rd 1) .nil)) []) .nil)))) .nil))
def fd11 : FD := ⟨3, 3, [], ir11⟩
abbrev st12 : Stmt := top 18
abbrev N12 : List Str := ["blocks", "size", "many"]
/-- least_copied -/
def ir12 : Ss := (.cons (.ret (.call 8 (.cons (.rd 0) (.cons (.rd 1) (.cons (.call 14 (.cons (.rd 0) (.cons (.rd 1) (.cons (.rd 2) .nil))) []) .nil))) [])) .nil)
def fd12 : FD := ⟨3, 3, [], ir12⟩
abbrev st13 : Stmt := top 19
abbrev N13 : List Str := ["blocks", "size", "many"]
/-- most_copied -/
def ir13 : Ss := (.cons (.expr (.call 4 (.cons (.rd 0) (.cons (.rd 1) (.cons (.rd 2) .nil))) [])) (.cons (.ret (.bi .min (.cons (.op .Mult (.bi .int (.cons (.rd 2) .nil)) (.bi .int (.cons (.rd 1) .nil))) (.cons (.bi .int (.cons (.rd 0) .nil)) .nil)))) .nil))
def fd13 : FD := ⟨3, 3, [], ir13⟩
abbrev st14 : Stmt := top 20
abbrev N14 : List Str := ["blocks", "size", "many", "short", "front", "last", "back"]
/-- packed -/
def ir14 : Ss := (.cons (.expr (.call 4 (.cons (.rd 0) (.cons (.rd 1) (.cons (.rd 2) .nil))) [])) (.cons (.asg 3 (.op .Mod (.rd 0) (.rd 1))) (.cons (.asg 4 (.lrng (.rd 2) .no)) (.cons (.ife (.v (.cmp .Eq (.rd 3) (.int 0))) (.cons (.retv 4) .nil) .nil) (.cons (.asg 5 (.bi .min (.cons (.bi .int (.cons (.rd 2) .nil)) (.cons (.rd 3) .nil)))) (.cons (.asg 6 (.op .Add (.lrng (.op .Sub (.rd 2) (.rd 5)) .no) (.lrng (.op .Sub (.rd 0) (.rd 5)) (.so (.rd 0))))) (.cons (.ret (.ife (.v (.cmp .Lt (.call 8 (.cons (.rd 0) (.cons (.rd 1) (.cons (.rd 6) .nil))) []) (.call 8 (.cons (.rd 0) (.cons (.rd 1) (.cons (.rd 4) .nil))) []))) (.rd 6) (.rd 4))) .nil)))))))
def fd14 : FD := ⟨3, 7, [], ir14⟩
abbrev st15 : Stmt := top 21
abbrev N15 : List Str := ["blocks", "size", "many", "heads", "rest", "block"]
/-- spread -/
def ir15 : Ss := (.cons (.expr (.call 4 (.cons (.rd 0) (.cons (.rd 1) (.cons (.rd 2) .nil))) [])) (.cons (.asg 3 (.sl (.lrng3 (.int 0) (.rd 0) (.rd 1)) .no (.so (.rd 2)))) (.cons (.asg 4 (.lc [5] (.var 5) (.rng (.rd 0) .no) (.cons (.v (.cmp .NotEq (.op .Mod (.rd 5) (.rd 1)) (.int 0))) .nil) (.rd 5))) (.cons (.ret (.bi .sorted (.cons (.lc [5] (.var 5) (.e (.op .Add (.rd 3) (.sl (.rd 4) .no (.so (.op .Sub (.rd 2) (.bi .len (.cons (.rd 3) .nil))))))) .nil (.bi .int (.cons (.rd 5) .nil))) .nil))) .nil))))
def fd15 : FD := ⟨3, 6, [], ir15⟩
abbrev st16 : Stmt := top 23
abbrev N16 : List Str := ["_law_script", "_law_k", "_law_cell", "_law_seed"]
/-- _law_pool -/
def ir16 : Ss := (.cons (.asg 2 (.ife (.v (.cmp .Lt (.rd 1) (.bi .len (.cons (.rd 0) .nil)))) (.ix (.rd 0) (.rd 1)) (.int 0))) (.cons (.asg 3 (.op .Mult (.bi .int (.cons (.op .Add (.op .Add (.op .Mod (.bi .int (.cons (.rd 2) .nil)) (.int 2147483629)) (.op .Mult (.op .Mult (.int 7919) (.rd 1)) (.rd 1))) (.int 13)) .nil)) (.int 48271))) (.cons (.ret (.lst (.cons (.ife (.v (.cmp .GtE (.rd 2) (.op .Pow (.int 10) (.int 18)))) (.rd 2) (.int 0)) (.cons (.op .Add (.op .Mod (.bi .int (.cons (.rd 3) .nil)) (.int 2147483647)) (.int 1)) .nil)))) .nil)))
def fd16 : FD := ⟨2, 4, [], ir16⟩
abbrev st17 : Stmt := top 24
abbrev N17 : List Str := ["_law_pool_here", "_law_many", "_law_found"]
/-- _law_take -/
def ir17 : Ss := (.cons (.ife (.v (.cmp .Gt (.rdx 0 (.int 0)) (.int 0))) (.cons (.asg 2 (.op .Mod (.bi .int (.cons (.rdx 0 (.int 0)) .nil)) (.rd 1))) (.cons (.setx 0 (.int 0) (.op .FloorDiv (.rdx 0 (.int 0)) (.rd 1))) (.cons (.retv 2) .nil))) .nil) (.cons (.setx 0 (.int 1) (.op .Mod (.bi .int (.cons (.op .Add (.op .Mult (.rdx 0 (.int 1)) (.int 48271)) (.int 11)) .nil)) (.int 2147483647))) (.cons (.ret (.op .Mod (.op .FloorDiv (.op .Mod (.bi .int (.cons (.op .Mult (.rdx 0 (.int 1)) (.rdx 0 (.int 1))) .nil)) (.int 2147483629)) (.int 64)) (.rd 1))) .nil)))
def fd17 : FD := ⟨2, 3, [0], ir17⟩
abbrev st18 : Stmt := top 25
abbrev N18 : List Str := ["_law_blocks", "_law_many", "_law_found", "_law_block", "_law_row"]
/-- _law_sets -/
def ir18 : Ss := (.cons (.asg 2 (.lst (.cons (.lst .nil) .nil))) (.cons (.for_ (.var 3) (.rng (.rd 0) .no) (.cons (.asg 2 (.op .Add (.rd 2) (.lc [4] (.var 4) (.e (.rd 2)) (.cons (.v (.cmp .Lt (.bi .len (.cons (.rd 4) .nil)) (.rd 1))) .nil) (.op .Add (.rd 4) (.lst (.cons (.rd 3) .nil)))))) .nil)) (.cons (.ret (.lc [4] (.var 4) (.e (.rd 2)) (.cons (.v (.cmp .Eq (.bi .len (.cons (.rd 4) .nil)) (.rd 1))) .nil) (.rd 4))) .nil)))
def fd18 : FD := ⟨2, 5, [], ir18⟩
abbrev st19 : Stmt := top 26
abbrev N19 : List Str := ["_law_blocks", "_law_size", "_law_row", "_law_regions", "_law_region", "_law_block"]
/-- _law_copied -/
def ir19 : Ss := (.cons (.asg 3 (.srtS (.of (.lc [5] (.var 5) (.e (.rd 2)) .nil (.op .FloorDiv (.rd 5) (.rd 1)))))) (.cons (.ret (.bi .sum (.cons (.lc [4] (.var 4) (.e (.rd 3)) .nil (.bi .min (.cons (.rd 1) (.cons (.op .Sub (.rd 0) (.op .Mult (.rd 4) (.rd 1))) .nil)))) .nil))) .nil))
def fd19 : FD := ⟨3, 6, [], ir19⟩
abbrev st20 : Stmt := top 27
abbrev N20 : List Str := ["_law_row", "_law_blocks", "_law_many"]
/-- _law_is_set -/
def ir20 : Ss := (.cons (.ret (.and (.cmp .Eq (.rd 0) (.srtS (.of (.rd 0)))) (.and (.cmp .Eq (.bi .len (.cons (.rd 0) .nil)) (.rd 2)) (.and (.cmp .GtE (.ix (.rd 0) (.int 0)) (.int 0)) (.one (.cmp .Lt (.ix (.rd 0) (.neg (.int 1))) (.rd 1))))))) .nil)
def fd20 : FD := ⟨3, 3, [], ir20⟩
abbrev st21 : Stmt := top 28
abbrev N21 : List Str := ["_law_pool_here", "_law_blocks", "_law_size", "_law_rows", "_law_row", "_law_regions", "_law_told", "_law_block"]
/-- _law_row_right -/
def ir21 : Ss := (.cons (.asg 4 (.ix (.rd 3) (.call 17 (.io 0 (.cons (.bi .len (.cons (.rd 3) .nil)) .nil)) []))) (.cons (.asg 5 (.srtS (.of (.lc [7] (.var 7) (.e (.rd 4)) .nil (.op .FloorDiv (.rd 7) (.rd 2)))))) (.cons (.for_ (.var 6) (.e (.lst (.cons (.rd 4) (.cons (.rev (.rd 4)) (.cons (.bi .tuple (.cons (.rd 4) .nil)) .nil))))) (.cons (.ife (.or (.v (.cmp .NotEq (.call 6 (.cons (.rd 1) (.cons (.rd 2) (.cons (.rd 6) .nil))) []) (.rd 5))) (.one (.v (.cmp .NotEq (.call 8 (.cons (.rd 1) (.cons (.rd 2) (.cons (.rd 6) .nil))) []) (.call 19 (.cons (.rd 1) (.cons (.rd 2) (.cons (.rd 4) .nil))) []))))) (.cons (.ret (.bl false)) .nil) .nil) .nil)) (.cons (.ret (.bl true)) .nil))))
def fd21 : FD := ⟨4, 8, [0], ir21⟩
abbrev st22 : Stmt := top 29
abbrev N22 : List Str := ["_law_script", "_law_k", "_law_pool_here", "_law_many", "_law_rows", "_law_counts", "_law_regions", "_law_blocks", "_law_size", "_law_near", "_law_far", "_law_row", "_law_block"]
/-- law -/
def ir22 : Ss := (.cons (.for_ (.var 1) (.rng (.bi .max (.cons (.int 1) (.cons (.bi .min (.cons (.bi .len (.cons (.rd 0) .nil)) (.cons (.int 4) .nil))) .nil))) .no) (.cons (.asg 2 (.call 16 (.cons (.rd 0) (.cons (.rd 1) .nil)) [])) (.cons (.asgT [7, 8] (.tup (.cons (.op .Add (.int 1) (.call 17 (.io 2 (.cons (.int 9) .nil)) [])) (.cons (.op .Add (.int 1) (.call 17 (.io 2 (.cons (.int 11) .nil)) [])) .nil)))) (.cons (.asg 3 (.op .Add (.int 1) (.call 17 (.io 2 (.cons (.rd 7) .nil)) []))) (.cons (.asg 4 (.call 18 (.cons (.rd 7) (.cons (.rd 3) .nil)) [])) (.cons (.asg 5 (.lc [11] (.var 11) (.e (.rd 4)) .nil (.call 19 (.cons (.rd 7) (.cons (.rd 8) (.cons (.rd 11) .nil))) []))) (.cons (.asg 6 (.lc [11] (.var 11) (.e (.rd 4)) .nil (.lenS (.of (.lc [12] (.var 12) (.e (.rd 11)) .nil (.op .FloorDiv (.rd 12) (.rd 8))))))) (.cons (.ife (.or (.v (.cmp .NotEq (.call 12 (.cons (.rd 7) (.cons (.rd 8) (.cons (.rd 3) .nil))) []) (.bi .min (.cons (.rd 5) .nil)))) (.one (.v (.cmp .NotEq (.call 13 (.cons (.rd 7) (.cons (.rd 8) (.cons (.rd 3) .nil))) []) (.bi .max (.cons (.rd 5) .nil)))))) (.cons (.ret (.bl false)) .nil) .nil) (.cons (.ife (.or (.v (.cmp .NotEq (.call 10 (.cons (.rd 7) (.cons (.rd 8) (.cons (.rd 3) .nil))) []) (.bi .min (.cons (.rd 6) .nil)))) (.one (.v (.cmp .NotEq (.call 11 (.cons (.rd 7) (.cons (.rd 8) (.cons (.rd 3) .nil))) []) (.bi .max (.cons (.rd 6) .nil)))))) (.cons (.ret (.bl false)) .nil) .nil) (.cons (.par [9, 10] (.cons (.call 14 (.cons (.rd 7) (.cons (.rd 8) (.cons (.rd 3) .nil))) []) (.cons (.call 15 (.cons (.rd 7) (.cons (.rd 8) (.cons (.rd 3) .nil))) []) .nil))) (.cons (.ife (.or (.not (.v (.call 20 (.cons (.rd 9) (.cons (.rd 7) (.cons (.rd 3) .nil))) []))) (.one (.not (.v (.call 20 (.cons (.rd 10) (.cons (.rd 7) (.cons (.rd 3) .nil))) []))))) (.cons (.ret (.bl false)) .nil) .nil) (.cons (.ife (.or (.v (.cmp .NotEq (.call 19 (.cons (.rd 7) (.cons (.rd 8) (.cons (.rd 9) .nil))) []) (.bi .min (.cons (.rd 5) .nil)))) (.one (.v (.cmp .NotEq (.call 19 (.cons (.rd 7) (.cons (.rd 8) (.cons (.rd 10) .nil))) []) (.bi .max (.cons (.rd 5) .nil)))))) (.cons (.ret (.bl false)) .nil) .nil) (.cons (.ife (.not (.v (.call 21 (.io 2 (.cons (.rd 7) (.cons (.rd 8) (.cons (.rd 4) .nil)))) []))) (.cons (.ret (.bl false)) .nil) .nil) .nil))))))))))))) (.cons (.ret (.bl true)) .nil))
def fd22 : FD := ⟨1, 13, [], ir22⟩
def tabL : List FD := [fd0, fd1, fd2, fd3, fd4, fd5, fd6, fd7, fd8, fd9, fd10, fd11, fd12, fd13, fd14, fd15, fd16, fd17, fd18, fd19, fd20, fd21, fd22]
def tab (i : Nat) : Option FD := tabL[i]?
abbrev Cl (d : Nat) : Calls := callN (cstG cs) tab d
section
variable {P : Program} {w : World} {K : PySem.W.Frag} {mg : Str → Option Value} {base : Heap} {f : Addr} {fd : FuncData} {d : Nat}
abbrev IH (P : Program) (w : World) (K : PySem.W.Frag) (mg : Str → Option Value) (base : Heap) (d : Nat) : Prop := ∀ i x io n, fs[i]? = some (x, io, n) → FnC P w K mg base xr0 (Cl d) d i x io n []
theorem sc0 : FnScope N0 ["thing"] (defScope st0) := ⟨rfl, rfl, rfl, by decide +kernel, rfl, by decide +kernel, by decide +kernel⟩
theorem bd0 (M : Mg mg bl cs) (ih : IH P w K mg base d) (cdv : Value) (A : Around) (outer : List PySem.Env) (s : Shared) (H : Hp) (E : XK) (hr : Room d (A.deeper (PyProof.Rows.envOfC "is_integer" (defScope st0) s.heap.objs.size f cdv))) :
    PSs (cxOf (L2.CX P w) P w K mg base N0 "is_integer" (defScope st0) f cdv A outer s H E) (defBody st0) (tSs K (gOf (cstG cs) (Cl d) xr0 xm0 E) fd0.io ir0) := by
  have cx := cn_of (xm := xm0) (cdv := cdv) (A := A) (outer := outer) (s := s) (H := H) (E := E) sc0 M ih hr
  exact (sns_cons (sns_ret (snd_and (e_isi cx .int (e_rd 0)) (snd_one (snd_not (e_isi cx .bool (e_rd 0))))))
      sns_nil)
theorem sc1 : FnScope N1 ["thing", "least", "most"] (defScope st1) := ⟨rfl, rfl, rfl, by decide +kernel, rfl, by decide +kernel, by decide +kernel⟩
theorem bd1 (M : Mg mg bl cs) (ih : IH P w K mg base d) (cdv : Value) (A : Around) (outer : List PySem.Env) (s : Shared) (H : Hp) (E : XK) (hr : Room d (A.deeper (PyProof.Rows.envOfC "is_between" (defScope st1) s.heap.objs.size f cdv))) :
    PSs (cxOf (L2.CX P w) P w K mg base N1 "is_between" (defScope st1) f cdv A outer s H E) (defBody st1) (tSs K (gOf (cstG cs) (Cl d) xr0 xm0 E) fd1.io ir1) := by
  have cx := cn_of (xm := xm0) (cdv := cdv) (A := A) (outer := outer) (s := s) (H := H) (E := E) sc1 M ih hr
  exact (sns_cons (sns_ret (snd_and (e_call cx 0 (a_cons (e_rd 0) a_nil)) (snd_one (e_chn cx (e_rd 1) (e_rd 0) (e_rd 2)))))
      sns_nil)
theorem sc2 : FnScope N2 ["thing"] (defScope st2) := ⟨rfl, rfl, rfl, by decide +kernel, rfl, by decide +kernel, by decide +kernel⟩
theorem bd2 (M : Mg mg bl cs) (ih : IH P w K mg base d) (cdv : Value) (A : Around) (outer : List PySem.Env) (s : Shared) (H : Hp) (E : XK) (hr : Room d (A.deeper (PyProof.Rows.envOfC "is_row" (defScope st2) s.heap.objs.size f cdv))) :
    PSs (cxOf (L2.CX P w) P w K mg base N2 "is_row" (defScope st2) f cdv A outer s H E) (defBody st2) (tSs K (gOf (cstG cs) (Cl d) xr0 xm0 E) fd2.io ir2) := by
  have cx := cn_of (xm := xm0) (cdv := cdv) (A := A) (outer := outer) (s := s) (H := H) (E := E) sc2 M ih hr
  exact (sns_cons (sns_ret (e_isis2 cx .list .tuple (e_rd 0)))
      sns_nil)
theorem sc3 : FnScope N3 ["thing", "least", "most"] (defScope st3) := ⟨rfl, rfl, rfl, by decide +kernel, rfl, by decide +kernel, by decide +kernel⟩
theorem bd3 (M : Mg mg bl cs) (ih : IH P w K mg base d) (cdv : Value) (A : Around) (outer : List PySem.Env) (s : Shared) (H : Hp) (E : XK) (hr : Room d (A.deeper (PyProof.Rows.envOfC "check_number" (defScope st3) s.heap.objs.size f cdv))) :
    PSs (cxOf (L2.CX P w) P w K mg base N3 "check_number" (defScope st3) f cdv A outer s H E) (defBody st3) (tSs K (gOf (cstG cs) (Cl d) xr0 xm0 E) fd3.io ir3) := by
  have cx := cn_of (xm := xm0) (cdv := cdv) (A := A) (outer := outer) (s := s) (H := H) (E := E) sc3 M ih hr
  exact (sns_cons (sns_if (snt_not (t_v (e_call cx 1 (a_cons (e_rd 0) (a_cons (e_rd 1) (a_cons (e_rd 2) a_nil)))))) (sns_cons s_never
      sns_nil) sns_nil)
      sns_nil)
theorem sc4 : FnScope N4 ["blocks", "size", "many"] (defScope st4) := ⟨rfl, rfl, rfl, by decide +kernel, rfl, by decide +kernel, by decide +kernel⟩
theorem bd4 (M : Mg mg bl cs) (ih : IH P w K mg base d) (cdv : Value) (A : Around) (outer : List PySem.Env) (s : Shared) (H : Hp) (E : XK) (hr : Room d (A.deeper (PyProof.Rows.envOfC "check_store" (defScope st4) s.heap.objs.size f cdv))) :
    PSs (cxOf (L2.CX P w) P w K mg base N4 "check_store" (defScope st4) f cdv A outer s H E) (defBody st4) (tSs K (gOf (cstG cs) (Cl d) xr0 xm0 E) fd4.io ir4) := by
  have cx := cn_of (xm := xm0) (cdv := cdv) (A := A) (outer := outer) (s := s) (H := H) (E := E) sc4 M ih hr
  exact (sns_cons (s_expr (e_call cx 3 (a_cons (e_rd 0) (a_cons snd_int (a_cons (e_cst cx 0) a_nil)))))
      (sns_cons (s_expr (e_call cx 3 (a_cons (e_rd 1) (a_cons snd_int (a_cons (e_cst cx 0) a_nil)))))
      (sns_cons (s_expr (e_call cx 3 (a_cons (e_rd 2) (a_cons snd_int (a_cons (e_rd 0) a_nil)))))
      sns_nil)))
theorem sc5 : FnScope N5 ["blocks", "written"] (defScope st5) := ⟨rfl, rfl, rfl, by decide +kernel, rfl, by decide +kernel, by decide +kernel⟩
theorem bd5 (M : Mg mg bl cs) (ih : IH P w K mg base d) (cdv : Value) (A : Around) (outer : List PySem.Env) (s : Shared) (H : Hp) (E : XK) (hr : Room d (A.deeper (PyProof.Rows.envOfC "check_written" (defScope st5) s.heap.objs.size f cdv))) :
    PSs (cxOf (L2.CX P w) P w K mg base N5 "check_written" (defScope st5) f cdv A outer s H E) (defBody st5) (tSs K (gOf (cstG cs) (Cl d) xr0 xm0 E) fd5.io ir5) := by
  have cx := cn_of (xm := xm0) (cdv := cdv) (A := A) (outer := outer) (s := s) (H := H) (E := E) sc5 M ih hr
  exact (sns_cons (sns_if (t_w (snw_or (snt_not (t_v (e_call cx 2 (a_cons (e_rd 1) a_nil)))) (snw_one (snt_not (t_v (e_all cx (e_cons (e_lc cx [("block", 2)] (sni_e (e_rd 1)) (fun _ _ _ _ _ => (g_var (cx.blk) 2)) (fun _ _ _ _ _ => ts_nil) (fun _ _ _ _ _ => (e_call (cx.blk) 1 (a_cons (e_rd 2) (a_cons snd_int (a_cons (snd_op (e_rd 0) snd_int) a_nil)))))) e_nil))))))) (sns_cons s_never
      sns_nil) sns_nil)
      (sns_cons (sns_if (t_cmp cx (e_lenS cx (z_sc cx [("block", 2)] (sni_e (e_rd 1)) (fun _ _ _ _ _ => (g_var (cx.blk) 2)) (fun _ _ _ _ _ => ts_nil) (fun _ _ _ _ _ => (e_rd 2)))) (e_len cx (e_cons (e_rd 1) e_nil))) (sns_cons s_never
      sns_nil) sns_nil)
      sns_nil))
theorem sc6 : FnScope N6 ["blocks", "size", "written"] (defScope st6) := ⟨rfl, rfl, rfl, by decide +kernel, rfl, by decide +kernel, by decide +kernel⟩
theorem bd6 (M : Mg mg bl cs) (ih : IH P w K mg base d) (cdv : Value) (A : Around) (outer : List PySem.Env) (s : Shared) (H : Hp) (E : XK) (hr : Room d (A.deeper (PyProof.Rows.envOfC "touched" (defScope st6) s.heap.objs.size f cdv))) :
    PSs (cxOf (L2.CX P w) P w K mg base N6 "touched" (defScope st6) f cdv A outer s H E) (defBody st6) (tSs K (gOf (cstG cs) (Cl d) xr0 xm0 E) fd6.io ir6) := by
  have cx := cn_of (xm := xm0) (cdv := cdv) (A := A) (outer := outer) (s := s) (H := H) (E := E) sc6 M ih hr
  exact (sns_cons (s_expr (e_call cx 3 (a_cons (e_rd 0) (a_cons snd_int (a_cons (e_cst cx 0) a_nil)))))
      (sns_cons (s_expr (e_call cx 3 (a_cons (e_rd 1) (a_cons snd_int (a_cons (e_cst cx 0) a_nil)))))
      (sns_cons (s_expr (e_call cx 5 (a_cons (e_rd 0) (a_cons (e_rd 2) a_nil))))
      (sns_cons (sns_ret (e_srtS cx (z_sc cx [("block", 3)] (sni_e (e_rd 2)) (fun _ _ _ _ _ => (g_var (cx.blk) 3)) (fun _ _ _ _ _ => ts_nil) (fun _ _ _ _ _ => (snd_op (e_toint (cx.blk) (e_cons (e_rd 3) e_nil)) (e_rd 1))))))
      sns_nil))))
theorem sc7 : FnScope N7 ["blocks", "size", "region"] (defScope st7) := ⟨rfl, rfl, rfl, by decide +kernel, rfl, by decide +kernel, by decide +kernel⟩
theorem bd7 (M : Mg mg bl cs) (ih : IH P w K mg base d) (cdv : Value) (A : Around) (outer : List PySem.Env) (s : Shared) (H : Hp) (E : XK) (hr : Room d (A.deeper (PyProof.Rows.envOfC "length_of" (defScope st7) s.heap.objs.size f cdv))) :
    PSs (cxOf (L2.CX P w) P w K mg base N7 "length_of" (defScope st7) f cdv A outer s H E) (defBody st7) (tSs K (gOf (cstG cs) (Cl d) xr0 xm0 E) fd7.io ir7) := by
  have cx := cn_of (xm := xm0) (cdv := cdv) (A := A) (outer := outer) (s := s) (H := H) (E := E) sc7 M ih hr
  exact (sns_cons (sns_ret (e_min cx (e_cons (e_toint cx (e_cons (e_rd 1) e_nil)) (e_cons (snd_op (e_toint cx (e_cons (e_rd 0) e_nil)) (snd_op (e_toint cx (e_cons (e_rd 2) e_nil)) (e_toint cx (e_cons (e_rd 1) e_nil)))) e_nil))))
      sns_nil)
theorem sc8 : FnScope N8 ["blocks", "size", "written"] (defScope st8) := ⟨rfl, rfl, rfl, by decide +kernel, rfl, by decide +kernel, by decide +kernel⟩
theorem bd8 (M : Mg mg bl cs) (ih : IH P w K mg base d) (cdv : Value) (A : Around) (outer : List PySem.Env) (s : Shared) (H : Hp) (E : XK) (hr : Room d (A.deeper (PyProof.Rows.envOfC "copied" (defScope st8) s.heap.objs.size f cdv))) :
    PSs (cxOf (L2.CX P w) P w K mg base N8 "copied" (defScope st8) f cdv A outer s H E) (defBody st8) (tSs K (gOf (cstG cs) (Cl d) xr0 xm0 E) fd8.io ir8) := by
  have cx := cn_of (xm := xm0) (cdv := cdv) (A := A) (outer := outer) (s := s) (H := H) (E := E) sc8 M ih hr
  exact (sns_cons (sns_ret (e_sum cx (e_cons (e_lc cx [("region", 3)] (sni_e (e_call cx 6 (a_cons (e_rd 0) (a_cons (e_rd 1) (a_cons (e_rd 2) a_nil))))) (fun _ _ _ _ _ => (g_var (cx.blk) 3)) (fun _ _ _ _ _ => ts_nil) (fun _ _ _ _ _ => (e_call (cx.blk) 7 (a_cons (e_rd 0) (a_cons (e_rd 1) (a_cons (e_rd 3) a_nil)))))) e_nil)))
      sns_nil)
theorem sc9 : FnScope N9 ["number", "size"] (defScope st9) := ⟨rfl, rfl, rfl, by decide +kernel, rfl, by decide +kernel, by decide +kernel⟩
theorem bd9 (M : Mg mg bl cs) (ih : IH P w K mg base d) (cdv : Value) (A : Around) (outer : List PySem.Env) (s : Shared) (H : Hp) (E : XK) (hr : Room d (A.deeper (PyProof.Rows.envOfC "raised" (defScope st9) s.heap.objs.size f cdv))) :
    PSs (cxOf (L2.CX P w) P w K mg base N9 "raised" (defScope st9) f cdv A outer s H E) (defBody st9) (tSs K (gOf (cstG cs) (Cl d) xr0 xm0 E) fd9.io ir9) := by
  have cx := cn_of (xm := xm0) (cdv := cdv) (A := A) (outer := outer) (s := s) (H := H) (E := E) sc9 M ih hr
  exact (sns_cons (sns_ret (snd_op (snd_op (snd_op (e_rd 0) (e_rd 1)) snd_int) (e_rd 1)))
      sns_nil)
theorem sc10 : FnScope N10 ["blocks", "size", "many"] (defScope st10) := ⟨rfl, rfl, rfl, by decide +kernel, rfl, by decide +kernel, by decide +kernel⟩
theorem bd10 (M : Mg mg bl cs) (ih : IH P w K mg base d) (cdv : Value) (A : Around) (outer : List PySem.Env) (s : Shared) (H : Hp) (E : XK) (hr : Room d (A.deeper (PyProof.Rows.envOfC "least_touched" (defScope st10) s.heap.objs.size f cdv))) :
    PSs (cxOf (L2.CX P w) P w K mg base N10 "least_touched" (defScope st10) f cdv A outer s H E) (defBody st10) (tSs K (gOf (cstG cs) (Cl d) xr0 xm0 E) fd10.io ir10) := by
  have cx := cn_of (xm := xm0) (cdv := cdv) (A := A) (outer := outer) (s := s) (H := H) (E := E) sc10 M ih hr
  exact (sns_cons (s_expr (e_call cx 4 (a_cons (e_rd 0) (a_cons (e_rd 1) (a_cons (e_rd 2) a_nil)))))
      (sns_cons (sns_ret (e_call cx 9 (a_cons (e_rd 2) (a_cons (e_rd 1) a_nil))))
      sns_nil))
theorem sc11 : FnScope N11 ["blocks", "size", "many"] (defScope st11) := ⟨rfl, rfl, rfl, by decide +kernel, rfl, by decide +kernel, by decide +kernel⟩
theorem bd11 (M : Mg mg bl cs) (ih : IH P w K mg base d) (cdv : Value) (A : Around) (outer : List PySem.Env) (s : Shared) (H : Hp) (E : XK) (hr : Room d (A.deeper (PyProof.Rows.envOfC "most_touched" (defScope st11) s.heap.objs.size f cdv))) :
    PSs (cxOf (L2.CX P w) P w K mg base N11 "most_touched" (defScope st11) f cdv A outer s H E) (defBody st11) (tSs K (gOf (cstG cs) (Cl d) xr0 xm0 E) fd11.io ir11) := by
  have cx := cn_of (xm := xm0) (cdv := cdv) (A := A) (outer := outer) (s := s) (H := H) (E := E) sc11 M ih hr
  exact (sns_cons (s_expr (e_call cx 4 (a_cons (e_rd 0) (a_cons (e_rd 1) (a_cons (e_rd 2) a_nil)))))
      (sns_cons (sns_ret (e_min cx (e_cons (e_toint cx (e_cons (e_rd 2) e_nil)) (e_cons (e_call cx 9 (a_cons (e_rd 0) (a_cons (e_rd 1) a_nil))) e_nil))))
      sns_nil))
theorem sc12 : FnScope N12 ["blocks", "size", "many"] (defScope st12) := ⟨rfl, rfl, rfl, by decide +kernel, rfl, by decide +kernel, by decide +kernel⟩
theorem bd12 (M : Mg mg bl cs) (ih : IH P w K mg base d) (cdv : Value) (A : Around) (outer : List PySem.Env) (s : Shared) (H : Hp) (E : XK) (hr : Room d (A.deeper (PyProof.Rows.envOfC "least_copied" (defScope st12) s.heap.objs.size f cdv))) :
    PSs (cxOf (L2.CX P w) P w K mg base N12 "least_copied" (defScope st12) f cdv A outer s H E) (defBody st12) (tSs K (gOf (cstG cs) (Cl d) xr0 xm0 E) fd12.io ir12) := by
  have cx := cn_of (xm := xm0) (cdv := cdv) (A := A) (outer := outer) (s := s) (H := H) (E := E) sc12 M ih hr
  exact (sns_cons (sns_ret (e_call cx 8 (a_cons (e_rd 0) (a_cons (e_rd 1) (a_cons (e_call cx 14 (a_cons (e_rd 0) (a_cons (e_rd 1) (a_cons (e_rd 2) a_nil)))) a_nil)))))
      sns_nil)
theorem sc13 : FnScope N13 ["blocks", "size", "many"] (defScope st13) := ⟨rfl, rfl, rfl, by decide +kernel, rfl, by decide +kernel, by decide +kernel⟩
theorem bd13 (M : Mg mg bl cs) (ih : IH P w K mg base d) (cdv : Value) (A : Around) (outer : List PySem.Env) (s : Shared) (H : Hp) (E : XK) (hr : Room d (A.deeper (PyProof.Rows.envOfC "most_copied" (defScope st13) s.heap.objs.size f cdv))) :
    PSs (cxOf (L2.CX P w) P w K mg base N13 "most_copied" (defScope st13) f cdv A outer s H E) (defBody st13) (tSs K (gOf (cstG cs) (Cl d) xr0 xm0 E) fd13.io ir13) := by
  have cx := cn_of (xm := xm0) (cdv := cdv) (A := A) (outer := outer) (s := s) (H := H) (E := E) sc13 M ih hr
  exact (sns_cons (s_expr (e_call cx 4 (a_cons (e_rd 0) (a_cons (e_rd 1) (a_cons (e_rd 2) a_nil)))))
      (sns_cons (sns_ret (e_min cx (e_cons (snd_op (e_toint cx (e_cons (e_rd 2) e_nil)) (e_toint cx (e_cons (e_rd 1) e_nil))) (e_cons (e_toint cx (e_cons (e_rd 0) e_nil)) e_nil))))
      sns_nil))
theorem sc14 : FnScope N14 ["blocks", "size", "many"] (defScope st14) := ⟨rfl, rfl, rfl, by decide +kernel, rfl, by decide +kernel, by decide +kernel⟩
theorem bd14 (M : Mg mg bl cs) (ih : IH P w K mg base d) (cdv : Value) (A : Around) (outer : List PySem.Env) (s : Shared) (H : Hp) (E : XK) (hr : Room d (A.deeper (PyProof.Rows.envOfC "packed" (defScope st14) s.heap.objs.size f cdv))) :
    PSs (cxOf (L2.CX P w) P w K mg base N14 "packed" (defScope st14) f cdv A outer s H E) (defBody st14) (tSs K (gOf (cstG cs) (Cl d) xr0 xm0 E) fd14.io ir14) := by
  have cx := cn_of (xm := xm0) (cdv := cdv) (A := A) (outer := outer) (s := s) (H := H) (E := E) sc14 M ih hr
  exact (sns_cons (s_expr (e_call cx 4 (a_cons (e_rd 0) (a_cons (e_rd 1) (a_cons (e_rd 2) a_nil)))))
      (sns_cons (s_asg cx 3 (snd_op (e_rd 0) (e_rd 1)))
      (sns_cons (s_asg cx 4 (e_lrng1 cx (e_rd 2)))
      (sns_cons (sns_if (t_cmp cx (e_rd 3) snd_int) (sns_cons (s_retv 4)
      sns_nil) sns_nil)
      (sns_cons (s_asg cx 5 (e_min cx (e_cons (e_toint cx (e_cons (e_rd 2) e_nil)) (e_cons (e_rd 3) e_nil))))
      (sns_cons (s_asg cx 6 (snd_op (e_lrng1 cx (snd_op (e_rd 2) (e_rd 5))) (e_lrng2 cx (snd_op (e_rd 0) (e_rd 5)) (e_rd 0))))
      (sns_cons (sns_ret (snd_ife (t_cmp cx (e_call cx 8 (a_cons (e_rd 0) (a_cons (e_rd 1) (a_cons (e_rd 6) a_nil)))) (e_call cx 8 (a_cons (e_rd 0) (a_cons (e_rd 1) (a_cons (e_rd 4) a_nil))))) (e_rd 6) (e_rd 4)))
      sns_nil)))))))
theorem sc15 : FnScope N15 ["blocks", "size", "many"] (defScope st15) := ⟨rfl, rfl, rfl, by decide +kernel, rfl, by decide +kernel, by decide +kernel⟩
theorem bd15 (M : Mg mg bl cs) (ih : IH P w K mg base d) (cdv : Value) (A : Around) (outer : List PySem.Env) (s : Shared) (H : Hp) (E : XK) (hr : Room d (A.deeper (PyProof.Rows.envOfC "spread" (defScope st15) s.heap.objs.size f cdv))) :
    PSs (cxOf (L2.CX P w) P w K mg base N15 "spread" (defScope st15) f cdv A outer s H E) (defBody st15) (tSs K (gOf (cstG cs) (Cl d) xr0 xm0 E) fd15.io ir15) := by
  have cx := cn_of (xm := xm0) (cdv := cdv) (A := A) (outer := outer) (s := s) (H := H) (E := E) sc15 M ih hr
  exact (sns_cons (s_expr (e_call cx 4 (a_cons (e_rd 0) (a_cons (e_rd 1) (a_cons (e_rd 2) a_nil)))))
      (sns_cons (s_asg cx 3 (snd_sl (e_lrng3 cx snd_int (e_rd 0) (e_rd 1)) sno_none (sno_some (e_rd 2))))
      (sns_cons (s_asgLc cx 4 [("block", 5)] (i_rng1 cx (e_rd 0)) (fun _ _ _ _ _ => (g_var (cx.blk) 5)) (fun _ _ _ _ _ => (ts_one (t_cmp (cx.blk) (snd_op (e_rd 5) (e_rd 1)) snd_int))) (fun _ _ _ _ _ => (e_rd 5)))
      (sns_cons (sns_ret (e_sorted cx (e_cons (e_lc cx [("block", 5)] (sni_e (snd_op (e_rd 3) (snd_sl (e_rd 4) sno_none (sno_some (snd_op (e_rd 2) (e_len cx (e_cons (e_rd 3) e_nil))))))) (fun _ _ _ _ _ => (g_var (cx.blk) 5)) (fun _ _ _ _ _ => ts_nil) (fun _ _ _ _ _ => (e_toint (cx.blk) (e_cons (e_rd 5) e_nil)))) e_nil)))
      sns_nil))))
theorem sc16 : FnScope N16 ["_law_script", "_law_k"] (defScope st16) := ⟨rfl, rfl, rfl, by decide +kernel, rfl, by decide +kernel, by decide +kernel⟩
theorem bd16 (M : Mg mg bl cs) (ih : IH P w K mg base d) (cdv : Value) (A : Around) (outer : List PySem.Env) (s : Shared) (H : Hp) (E : XK) (hr : Room d (A.deeper (PyProof.Rows.envOfC "_law_pool" (defScope st16) s.heap.objs.size f cdv))) :
    PSs (cxOf (L2.CX P w) P w K mg base N16 "_law_pool" (defScope st16) f cdv A outer s H E) (defBody st16) (tSs K (gOf (cstG cs) (Cl d) xr0 xm0 E) fd16.io ir16) := by
  have cx := cn_of (xm := xm0) (cdv := cdv) (A := A) (outer := outer) (s := s) (H := H) (E := E) sc16 M ih hr
  exact (sns_cons (s_asg cx 2 (snd_ife (t_cmp cx (e_rd 1) (e_len cx (e_cons (e_rd 0) e_nil))) (e_ix (e_rd 0) (e_rd 1)) snd_int))
      (sns_cons (s_asg cx 3 (snd_op (e_toint cx (e_cons (snd_op (snd_op (snd_op (e_toint cx (e_cons (e_rd 2) e_nil)) snd_int) (snd_op (snd_op snd_int (e_rd 1)) (e_rd 1))) snd_int) e_nil)) snd_int))
      (sns_cons (sns_ret (snd_lst (e_cons (snd_ife (t_cmp cx (e_rd 2) (snd_op snd_int snd_int)) (e_rd 2) snd_int) (e_cons (snd_op (snd_op (e_toint cx (e_cons (e_rd 3) e_nil)) snd_int) snd_int) e_nil))))
      sns_nil)))
theorem sc17 : FnScope N17 ["_law_pool_here", "_law_many"] (defScope st17) := ⟨rfl, rfl, rfl, by decide +kernel, rfl, by decide +kernel, by decide +kernel⟩
theorem bd17 (M : Mg mg bl cs) (ih : IH P w K mg base d) (cdv : Value) (A : Around) (outer : List PySem.Env) (s : Shared) (H : Hp) (E : XK) (hr : Room d (A.deeper (PyProof.Rows.envOfC "_law_take" (defScope st17) s.heap.objs.size f cdv))) :
    PSs (cxOf (L2.CX P w) P w K mg base N17 "_law_take" (defScope st17) f cdv A outer s H E) (defBody st17) (tSs K (gOf (cstG cs) (Cl d) xr0 xm0 E) fd17.io ir17) := by
  have cx := cn_of (xm := xm0) (cdv := cdv) (A := A) (outer := outer) (s := s) (H := H) (E := E) sc17 M ih hr
  exact (sns_cons (sns_if (t_cmp cx (e_rdx 0 snd_int) snd_int) (sns_cons (s_asg cx 2 (snd_op (e_toint cx (e_cons (e_rdx 0 snd_int) e_nil)) (e_rd 1)))
      (sns_cons (s_setx 0 snd_int (snd_op (e_rdx 0 snd_int) (e_rd 1)))
      (sns_cons (s_retv 2)
      sns_nil))) sns_nil)
      (sns_cons (s_setx 0 snd_int (snd_op (e_toint cx (e_cons (snd_op (snd_op (e_rdx 0 snd_int) snd_int) snd_int) e_nil)) snd_int))
      (sns_cons (sns_ret (snd_op (snd_op (snd_op (e_toint cx (e_cons (snd_op (e_rdx 0 snd_int) (e_rdx 0 snd_int)) e_nil)) snd_int) snd_int) (e_rd 1)))
      sns_nil)))
theorem sc18 : FnScope N18 ["_law_blocks", "_law_many"] (defScope st18) := ⟨rfl, rfl, rfl, by decide +kernel, rfl, by decide +kernel, by decide +kernel⟩
theorem bd18 (M : Mg mg bl cs) (ih : IH P w K mg base d) (cdv : Value) (A : Around) (outer : List PySem.Env) (s : Shared) (H : Hp) (E : XK) (hr : Room d (A.deeper (PyProof.Rows.envOfC "_law_sets" (defScope st18) s.heap.objs.size f cdv))) :
    PSs (cxOf (L2.CX P w) P w K mg base N18 "_law_sets" (defScope st18) f cdv A outer s H E) (defBody st18) (tSs K (gOf (cstG cs) (Cl d) xr0 xm0 E) fd18.io ir18) := by
  have cx := cn_of (xm := xm0) (cdv := cdv) (A := A) (outer := outer) (s := s) (H := H) (E := E) sc18 M ih hr
  exact (sns_cons (s_asg cx 2 (snd_lst (e_cons (snd_lst e_nil) e_nil)))
      (sns_cons (s_for cx own_of (i_rng1 cx (e_rd 0)) (g_var cx 3) (sns_cons (s_asg cx 2 (snd_op (e_rd 2) (e_lc cx [("_law_row", 4)] (sni_e (e_rd 2)) (fun _ _ _ _ _ => (g_var (cx.blk) 4)) (fun _ _ _ _ _ => (ts_one (t_cmp (cx.blk) (e_len (cx.blk) (e_cons (e_rd 4) e_nil)) (e_rd 1)))) (fun _ _ _ _ _ => (snd_op (e_rd 4) (snd_lst (e_cons (e_rd 3) e_nil)))))))
      sns_nil))
      (sns_cons (sns_ret (e_lc cx [("_law_row", 4)] (sni_e (e_rd 2)) (fun _ _ _ _ _ => (g_var (cx.blk) 4)) (fun _ _ _ _ _ => (ts_one (t_cmp (cx.blk) (e_len (cx.blk) (e_cons (e_rd 4) e_nil)) (e_rd 1)))) (fun _ _ _ _ _ => (e_rd 4))))
      sns_nil)))
theorem sc19 : FnScope N19 ["_law_blocks", "_law_size", "_law_row"] (defScope st19) := ⟨rfl, rfl, rfl, by decide +kernel, rfl, by decide +kernel, by decide +kernel⟩
theorem bd19 (M : Mg mg bl cs) (ih : IH P w K mg base d) (cdv : Value) (A : Around) (outer : List PySem.Env) (s : Shared) (H : Hp) (E : XK) (hr : Room d (A.deeper (PyProof.Rows.envOfC "_law_copied" (defScope st19) s.heap.objs.size f cdv))) :
    PSs (cxOf (L2.CX P w) P w K mg base N19 "_law_copied" (defScope st19) f cdv A outer s H E) (defBody st19) (tSs K (gOf (cstG cs) (Cl d) xr0 xm0 E) fd19.io ir19) := by
  have cx := cn_of (xm := xm0) (cdv := cdv) (A := A) (outer := outer) (s := s) (H := H) (E := E) sc19 M ih hr
  exact (sns_cons (s_asg cx 3 (e_srtS cx (z_of cx (e_lc cx [("_law_block", 5)] (sni_e (e_rd 2)) (fun _ _ _ _ _ => (g_var (cx.blk) 5)) (fun _ _ _ _ _ => ts_nil) (fun _ _ _ _ _ => (snd_op (e_rd 5) (e_rd 1)))))))
      (sns_cons (sns_ret (e_sum cx (e_cons (e_lc cx [("_law_region", 4)] (sni_e (e_rd 3)) (fun _ _ _ _ _ => (g_var (cx.blk) 4)) (fun _ _ _ _ _ => ts_nil) (fun _ _ _ _ _ => (e_min (cx.blk) (e_cons (e_rd 1) (e_cons (snd_op (e_rd 0) (snd_op (e_rd 4) (e_rd 1))) e_nil))))) e_nil)))
      sns_nil))
theorem sc20 : FnScope N20 ["_law_row", "_law_blocks", "_law_many"] (defScope st20) := ⟨rfl, rfl, rfl, by decide +kernel, rfl, by decide +kernel, by decide +kernel⟩
theorem bd20 (M : Mg mg bl cs) (ih : IH P w K mg base d) (cdv : Value) (A : Around) (outer : List PySem.Env) (s : Shared) (H : Hp) (E : XK) (hr : Room d (A.deeper (PyProof.Rows.envOfC "_law_is_set" (defScope st20) s.heap.objs.size f cdv))) :
    PSs (cxOf (L2.CX P w) P w K mg base N20 "_law_is_set" (defScope st20) f cdv A outer s H E) (defBody st20) (tSs K (gOf (cstG cs) (Cl d) xr0 xm0 E) fd20.io ir20) := by
  have cx := cn_of (xm := xm0) (cdv := cdv) (A := A) (outer := outer) (s := s) (H := H) (E := E) sc20 M ih hr
  exact (sns_cons (sns_ret (snd_and (e_cmp cx (e_rd 0) (e_srtS cx (z_of cx (e_rd 0)))) (snd_and (e_cmp cx (e_len cx (e_cons (e_rd 0) e_nil)) (e_rd 2)) (snd_and (e_cmp cx (e_ix (e_rd 0) snd_int) snd_int) (snd_one (e_cmp cx (e_ix (e_rd 0) (snd_neg snd_int)) (e_rd 1)))))))
      sns_nil)
theorem sc21 : FnScope N21 ["_law_pool_here", "_law_blocks", "_law_size", "_law_rows"] (defScope st21) := ⟨rfl, rfl, rfl, by decide +kernel, rfl, by decide +kernel, by decide +kernel⟩
theorem bd21 (M : Mg mg bl cs) (ih : IH P w K mg base d) (cdv : Value) (A : Around) (outer : List PySem.Env) (s : Shared) (H : Hp) (E : XK) (hr : Room d (A.deeper (PyProof.Rows.envOfC "_law_row_right" (defScope st21) s.heap.objs.size f cdv))) :
    PSs (cxOf (L2.CX P w) P w K mg base N21 "_law_row_right" (defScope st21) f cdv A outer s H E) (defBody st21) (tSs K (gOf (cstG cs) (Cl d) xr0 xm0 E) fd21.io ir21) := by
  have cx := cn_of (xm := xm0) (cdv := cdv) (A := A) (outer := outer) (s := s) (H := H) (E := E) sc21 M ih hr
  exact (sns_cons (s_asg cx 4 (e_ix (e_rd 3) (e_call cx 17 (a_io 0 (a_cons (e_len cx (e_cons (e_rd 3) e_nil)) a_nil)))))
      (sns_cons (s_asg cx 5 (e_srtS cx (z_of cx (e_lc cx [("_law_block", 7)] (sni_e (e_rd 4)) (fun _ _ _ _ _ => (g_var (cx.blk) 7)) (fun _ _ _ _ _ => ts_nil) (fun _ _ _ _ _ => (snd_op (e_rd 7) (e_rd 2)))))))
      (sns_cons (s_for cx own_of (sni_e (snd_lst (e_cons (e_rd 4) (e_cons (snd_rev (e_rd 4)) (e_cons (e_tuple cx (e_cons (e_rd 4) e_nil)) e_nil))))) (g_var cx 6) (sns_cons (sns_if (t_w (snw_or (t_cmp cx (e_call cx 6 (a_cons (e_rd 1) (a_cons (e_rd 2) (a_cons (e_rd 6) a_nil)))) (e_rd 5)) (snw_one (t_cmp cx (e_call cx 8 (a_cons (e_rd 1) (a_cons (e_rd 2) (a_cons (e_rd 6) a_nil)))) (e_call cx 19 (a_cons (e_rd 1) (a_cons (e_rd 2) (a_cons (e_rd 4) a_nil)))))))) (sns_cons (sns_ret snd_bl)
      sns_nil) sns_nil)
      sns_nil))
      (sns_cons (sns_ret snd_bl)
      sns_nil))))
theorem sc22 : FnScope N22 ["_law_script"] (defScope st22) := ⟨rfl, rfl, rfl, by decide +kernel, rfl, by decide +kernel, by decide +kernel⟩
theorem bd22 (M : Mg mg bl cs) (ih : IH P w K mg base d) (cdv : Value) (A : Around) (outer : List PySem.Env) (s : Shared) (H : Hp) (E : XK) (hr : Room d (A.deeper (PyProof.Rows.envOfC "law" (defScope st22) s.heap.objs.size f cdv))) :
    PSs (cxOf (L2.CX P w) P w K mg base N22 "law" (defScope st22) f cdv A outer s H E) (defBody st22) (tSs K (gOf (cstG cs) (Cl d) xr0 xm0 E) fd22.io ir22) := by
  have cx := cn_of (xm := xm0) (cdv := cdv) (A := A) (outer := outer) (s := s) (H := H) (E := E) sc22 M ih hr
  exact (sns_cons (s_for cx own_of (i_rng1 cx (e_max cx (e_cons snd_int (e_cons (e_min cx (e_cons (e_len cx (e_cons (e_rd 0) e_nil)) (e_cons snd_int e_nil))) e_nil)))) (g_var cx 1) (sns_cons (s_asg cx 2 (e_call cx 16 (a_cons (e_rd 0) (a_cons (e_rd 1) a_nil))))
      (sns_cons (s_asgT (snd_tup (e_cons (snd_op snd_int (e_call cx 17 (a_io 2 (a_cons snd_int a_nil)))) (e_cons (snd_op snd_int (e_call cx 17 (a_io 2 (a_cons snd_int a_nil)))) e_nil))) (g_tup cx (gs_cons cx 7 (gs_cons cx 8 gs_nil))))
      (sns_cons (s_asg cx 3 (snd_op snd_int (e_call cx 17 (a_io 2 (a_cons (e_rd 7) a_nil)))))
      (sns_cons (s_asg cx 4 (e_call cx 18 (a_cons (e_rd 7) (a_cons (e_rd 3) a_nil))))
      (sns_cons (s_asgLc cx 5 [("_law_row", 11)] (sni_e (e_rd 4)) (fun _ _ _ _ _ => (g_var (cx.blk) 11)) (fun _ _ _ _ _ => ts_nil) (fun _ _ _ _ _ => (e_call (cx.blk) 19 (a_cons (e_rd 7) (a_cons (e_rd 8) (a_cons (e_rd 11) a_nil))))))
      (sns_cons (s_asgLc cx 6 [("_law_row", 11)] (sni_e (e_rd 4)) (fun _ _ _ _ _ => (g_var (cx.blk) 11)) (fun _ _ _ _ _ => ts_nil) (fun _ _ _ _ _ => (e_lenS (cx.blk) (z_of (cx.blk) (e_lc (cx.blk) [("_law_block", 12)] (sni_e (e_rd 11)) (fun _ _ _ _ _ => (g_var ((cx.blk).blk) 12)) (fun _ _ _ _ _ => ts_nil) (fun _ _ _ _ _ => (snd_op (e_rd 12) (e_rd 8))))))))
      (sns_cons (sns_if (t_w (snw_or (t_cmp cx (e_call cx 12 (a_cons (e_rd 7) (a_cons (e_rd 8) (a_cons (e_rd 3) a_nil)))) (e_min cx (e_cons (e_rd 5) e_nil))) (snw_one (t_cmp cx (e_call cx 13 (a_cons (e_rd 7) (a_cons (e_rd 8) (a_cons (e_rd 3) a_nil)))) (e_max cx (e_cons (e_rd 5) e_nil)))))) (sns_cons (sns_ret snd_bl)
      sns_nil) sns_nil)
      (sns_cons (sns_if (t_w (snw_or (t_cmp cx (e_call cx 10 (a_cons (e_rd 7) (a_cons (e_rd 8) (a_cons (e_rd 3) a_nil)))) (e_min cx (e_cons (e_rd 6) e_nil))) (snw_one (t_cmp cx (e_call cx 11 (a_cons (e_rd 7) (a_cons (e_rd 8) (a_cons (e_rd 3) a_nil)))) (e_max cx (e_cons (e_rd 6) e_nil)))))) (sns_cons (sns_ret snd_bl)
      sns_nil) sns_nil)
      (sns_cons (s_par2 cx 9 10 (e_cons (e_call cx 14 (a_cons (e_rd 7) (a_cons (e_rd 8) (a_cons (e_rd 3) a_nil)))) (e_cons (e_call cx 15 (a_cons (e_rd 7) (a_cons (e_rd 8) (a_cons (e_rd 3) a_nil)))) e_nil)))
      (sns_cons (sns_if (t_w (snw_or (snt_not (t_v (e_call cx 20 (a_cons (e_rd 9) (a_cons (e_rd 7) (a_cons (e_rd 3) a_nil)))))) (snw_one (snt_not (t_v (e_call cx 20 (a_cons (e_rd 10) (a_cons (e_rd 7) (a_cons (e_rd 3) a_nil))))))))) (sns_cons (sns_ret snd_bl)
      sns_nil) sns_nil)
      (sns_cons (sns_if (t_w (snw_or (t_cmp cx (e_call cx 19 (a_cons (e_rd 7) (a_cons (e_rd 8) (a_cons (e_rd 9) a_nil)))) (e_min cx (e_cons (e_rd 5) e_nil))) (snw_one (t_cmp cx (e_call cx 19 (a_cons (e_rd 7) (a_cons (e_rd 8) (a_cons (e_rd 10) a_nil)))) (e_max cx (e_cons (e_rd 5) e_nil)))))) (sns_cons (sns_ret snd_bl)
      sns_nil) sns_nil)
      (sns_cons (sns_if (snt_not (t_v (e_call cx 21 (a_io 2 (a_cons (e_rd 7) (a_cons (e_rd 8) (a_cons (e_rd 4) a_nil))))))) (sns_cons (sns_ret snd_bl)
      sns_nil) sns_nil)
      sns_nil)))))))))))))
      (sns_cons (sns_ret snd_bl)
      sns_nil))
structure Fx (K : PySem.W.Frag) (mg : Str → Option Value) : Prop where
  f0 : ∃ fa fd, FunD K "is_integer" "is_integer" (defArgs st0) (defBody st0) (defScope st0) [] [] fa fd ∧ mg "is_integer" = some (.ref fa)
  f1 : ∃ fa fd, FunD K "is_between" "is_between" (defArgs st1) (defBody st1) (defScope st1) [] [] fa fd ∧ mg "is_between" = some (.ref fa)
  f2 : ∃ fa fd, FunD K "is_row" "is_row" (defArgs st2) (defBody st2) (defScope st2) [] [] fa fd ∧ mg "is_row" = some (.ref fa)
  f3 : ∃ fa fd, FunD K "check_number" "check_number" (defArgs st3) (defBody st3) (defScope st3) [] [] fa fd ∧ mg "check_number" = some (.ref fa)
  f4 : ∃ fa fd, FunD K "check_store" "check_store" (defArgs st4) (defBody st4) (defScope st4) [] [] fa fd ∧ mg "check_store" = some (.ref fa)
  f5 : ∃ fa fd, FunD K "check_written" "check_written" (defArgs st5) (defBody st5) (defScope st5) [] [] fa fd ∧ mg "check_written" = some (.ref fa)
  f6 : ∃ fa fd, FunD K "touched" "touched" (defArgs st6) (defBody st6) (defScope st6) [] [] fa fd ∧ mg "touched" = some (.ref fa)
  f7 : ∃ fa fd, FunD K "length_of" "length_of" (defArgs st7) (defBody st7) (defScope st7) [] [] fa fd ∧ mg "length_of" = some (.ref fa)
  f8 : ∃ fa fd, FunD K "copied" "copied" (defArgs st8) (defBody st8) (defScope st8) [] [] fa fd ∧ mg "copied" = some (.ref fa)
  f9 : ∃ fa fd, FunD K "raised" "raised" (defArgs st9) (defBody st9) (defScope st9) [] [] fa fd ∧ mg "raised" = some (.ref fa)
  f10 : ∃ fa fd, FunD K "least_touched" "least_touched" (defArgs st10) (defBody st10) (defScope st10) [] [] fa fd ∧ mg "least_touched" = some (.ref fa)
  f11 : ∃ fa fd, FunD K "most_touched" "most_touched" (defArgs st11) (defBody st11) (defScope st11) [] [] fa fd ∧ mg "most_touched" = some (.ref fa)
  f12 : ∃ fa fd, FunD K "least_copied" "least_copied" (defArgs st12) (defBody st12) (defScope st12) [] [] fa fd ∧ mg "least_copied" = some (.ref fa)
  f13 : ∃ fa fd, FunD K "most_copied" "most_copied" (defArgs st13) (defBody st13) (defScope st13) [] [] fa fd ∧ mg "most_copied" = some (.ref fa)
  f14 : ∃ fa fd, FunD K "packed" "packed" (defArgs st14) (defBody st14) (defScope st14) [] [] fa fd ∧ mg "packed" = some (.ref fa)
  f15 : ∃ fa fd, FunD K "spread" "spread" (defArgs st15) (defBody st15) (defScope st15) [] [] fa fd ∧ mg "spread" = some (.ref fa)
  f16 : ∃ fa fd, FunD K "_law_pool" "_law_pool" (defArgs st16) (defBody st16) (defScope st16) [] [] fa fd ∧ mg "_law_pool" = some (.ref fa)
  f17 : ∃ fa fd, FunD K "_law_take" "_law_take" (defArgs st17) (defBody st17) (defScope st17) [] [] fa fd ∧ mg "_law_take" = some (.ref fa)
  f18 : ∃ fa fd, FunD K "_law_sets" "_law_sets" (defArgs st18) (defBody st18) (defScope st18) [] [] fa fd ∧ mg "_law_sets" = some (.ref fa)
  f19 : ∃ fa fd, FunD K "_law_copied" "_law_copied" (defArgs st19) (defBody st19) (defScope st19) [] [] fa fd ∧ mg "_law_copied" = some (.ref fa)
  f20 : ∃ fa fd, FunD K "_law_is_set" "_law_is_set" (defArgs st20) (defBody st20) (defScope st20) [] [] fa fd ∧ mg "_law_is_set" = some (.ref fa)
  f21 : ∃ fa fd, FunD K "_law_row_right" "_law_row_right" (defArgs st21) (defBody st21) (defScope st21) [] [] fa fd ∧ mg "_law_row_right" = some (.ref fa)
  f22 : ∃ fa fd, FunD K "law" "law" (defArgs st22) (defBody st22) (defScope st22) [] [] fa fd ∧ mg "law" = some (.ref fa)
theorem zero (F : Fx K mg) : ∀ (i : Nat) (x : Str) (io : List Nat) (n : Nat), fs[i]? = some (x, io, n) → FnC P w K mg base xr0 (Cl 0) 0 i x io n [] := fun i x io n h => match i, h with
  | 0, h => by
    cases (show some (("is_integer" : Str), ([] : List Nat), 1) = some (x, io, n) from h)
    obtain ⟨fa, fd, F1, hm⟩ := F.f0
    exact mkC0 (ps := ["thing"]) F1 hm rfl (fun _ _ _ _ _ _ us hl => match us, hl with | [_], _ => rfl)
  | 1, h => by
    cases (show some (("is_between" : Str), ([] : List Nat), 3) = some (x, io, n) from h)
    obtain ⟨fa, fd, F1, hm⟩ := F.f1
    exact mkC0 (ps := ["thing", "least", "most"]) F1 hm rfl (fun _ _ _ _ _ _ us hl => match us, hl with | [_, _, _], _ => rfl)
  | 2, h => by
    cases (show some (("is_row" : Str), ([] : List Nat), 1) = some (x, io, n) from h)
    obtain ⟨fa, fd, F1, hm⟩ := F.f2
    exact mkC0 (ps := ["thing"]) F1 hm rfl (fun _ _ _ _ _ _ us hl => match us, hl with | [_], _ => rfl)
  | 3, h => by
    cases (show some (("check_number" : Str), ([] : List Nat), 3) = some (x, io, n) from h)
    obtain ⟨fa, fd, F1, hm⟩ := F.f3
    exact mkC0 (ps := ["thing", "least", "most"]) F1 hm rfl (fun _ _ _ _ _ _ us hl => match us, hl with | [_, _, _], _ => rfl)
  | 4, h => by
    cases (show some (("check_store" : Str), ([] : List Nat), 3) = some (x, io, n) from h)
    obtain ⟨fa, fd, F1, hm⟩ := F.f4
    exact mkC0 (ps := ["blocks", "size", "many"]) F1 hm rfl (fun _ _ _ _ _ _ us hl => match us, hl with | [_, _, _], _ => rfl)
  | 5, h => by
    cases (show some (("check_written" : Str), ([] : List Nat), 2) = some (x, io, n) from h)
    obtain ⟨fa, fd, F1, hm⟩ := F.f5
    exact mkC0 (ps := ["blocks", "written"]) F1 hm rfl (fun _ _ _ _ _ _ us hl => match us, hl with | [_, _], _ => rfl)
  | 6, h => by
    cases (show some (("touched" : Str), ([] : List Nat), 3) = some (x, io, n) from h)
    obtain ⟨fa, fd, F1, hm⟩ := F.f6
    exact mkC0 (ps := ["blocks", "size", "written"]) F1 hm rfl (fun _ _ _ _ _ _ us hl => match us, hl with | [_, _, _], _ => rfl)
  | 7, h => by
    cases (show some (("length_of" : Str), ([] : List Nat), 3) = some (x, io, n) from h)
    obtain ⟨fa, fd, F1, hm⟩ := F.f7
    exact mkC0 (ps := ["blocks", "size", "region"]) F1 hm rfl (fun _ _ _ _ _ _ us hl => match us, hl with | [_, _, _], _ => rfl)
  | 8, h => by
    cases (show some (("copied" : Str), ([] : List Nat), 3) = some (x, io, n) from h)
    obtain ⟨fa, fd, F1, hm⟩ := F.f8
    exact mkC0 (ps := ["blocks", "size", "written"]) F1 hm rfl (fun _ _ _ _ _ _ us hl => match us, hl with | [_, _, _], _ => rfl)
  | 9, h => by
    cases (show some (("raised" : Str), ([] : List Nat), 2) = some (x, io, n) from h)
    obtain ⟨fa, fd, F1, hm⟩ := F.f9
    exact mkC0 (ps := ["number", "size"]) F1 hm rfl (fun _ _ _ _ _ _ us hl => match us, hl with | [_, _], _ => rfl)
  | 10, h => by
    cases (show some (("least_touched" : Str), ([] : List Nat), 3) = some (x, io, n) from h)
    obtain ⟨fa, fd, F1, hm⟩ := F.f10
    exact mkC0 (ps := ["blocks", "size", "many"]) F1 hm rfl (fun _ _ _ _ _ _ us hl => match us, hl with | [_, _, _], _ => rfl)
  | 11, h => by
    cases (show some (("most_touched" : Str), ([] : List Nat), 3) = some (x, io, n) from h)
    obtain ⟨fa, fd, F1, hm⟩ := F.f11
    exact mkC0 (ps := ["blocks", "size", "many"]) F1 hm rfl (fun _ _ _ _ _ _ us hl => match us, hl with | [_, _, _], _ => rfl)
  | 12, h => by
    cases (show some (("least_copied" : Str), ([] : List Nat), 3) = some (x, io, n) from h)
    obtain ⟨fa, fd, F1, hm⟩ := F.f12
    exact mkC0 (ps := ["blocks", "size", "many"]) F1 hm rfl (fun _ _ _ _ _ _ us hl => match us, hl with | [_, _, _], _ => rfl)
  | 13, h => by
    cases (show some (("most_copied" : Str), ([] : List Nat), 3) = some (x, io, n) from h)
    obtain ⟨fa, fd, F1, hm⟩ := F.f13
    exact mkC0 (ps := ["blocks", "size", "many"]) F1 hm rfl (fun _ _ _ _ _ _ us hl => match us, hl with | [_, _, _], _ => rfl)
  | 14, h => by
    cases (show some (("packed" : Str), ([] : List Nat), 3) = some (x, io, n) from h)
    obtain ⟨fa, fd, F1, hm⟩ := F.f14
    exact mkC0 (ps := ["blocks", "size", "many"]) F1 hm rfl (fun _ _ _ _ _ _ us hl => match us, hl with | [_, _, _], _ => rfl)
  | 15, h => by
    cases (show some (("spread" : Str), ([] : List Nat), 3) = some (x, io, n) from h)
    obtain ⟨fa, fd, F1, hm⟩ := F.f15
    exact mkC0 (ps := ["blocks", "size", "many"]) F1 hm rfl (fun _ _ _ _ _ _ us hl => match us, hl with | [_, _, _], _ => rfl)
  | 16, h => by
    cases (show some (("_law_pool" : Str), ([] : List Nat), 2) = some (x, io, n) from h)
    obtain ⟨fa, fd, F1, hm⟩ := F.f16
    exact mkC0 (ps := ["_law_script", "_law_k"]) F1 hm rfl (fun _ _ _ _ _ _ us hl => match us, hl with | [_, _], _ => rfl)
  | 17, h => by
    cases (show some (("_law_take" : Str), ([0] : List Nat), 2) = some (x, io, n) from h)
    obtain ⟨fa, fd, F1, hm⟩ := F.f17
    exact mkC0 (ps := ["_law_pool_here", "_law_many"]) F1 hm rfl (fun _ _ _ _ _ _ us hl => match us, hl with | [_, _], _ => rfl)
  | 18, h => by
    cases (show some (("_law_sets" : Str), ([] : List Nat), 2) = some (x, io, n) from h)
    obtain ⟨fa, fd, F1, hm⟩ := F.f18
    exact mkC0 (ps := ["_law_blocks", "_law_many"]) F1 hm rfl (fun _ _ _ _ _ _ us hl => match us, hl with | [_, _], _ => rfl)
  | 19, h => by
    cases (show some (("_law_copied" : Str), ([] : List Nat), 3) = some (x, io, n) from h)
    obtain ⟨fa, fd, F1, hm⟩ := F.f19
    exact mkC0 (ps := ["_law_blocks", "_law_size", "_law_row"]) F1 hm rfl (fun _ _ _ _ _ _ us hl => match us, hl with | [_, _, _], _ => rfl)
  | 20, h => by
    cases (show some (("_law_is_set" : Str), ([] : List Nat), 3) = some (x, io, n) from h)
    obtain ⟨fa, fd, F1, hm⟩ := F.f20
    exact mkC0 (ps := ["_law_row", "_law_blocks", "_law_many"]) F1 hm rfl (fun _ _ _ _ _ _ us hl => match us, hl with | [_, _, _], _ => rfl)
  | 21, h => by
    cases (show some (("_law_row_right" : Str), ([0] : List Nat), 4) = some (x, io, n) from h)
    obtain ⟨fa, fd, F1, hm⟩ := F.f21
    exact mkC0 (ps := ["_law_pool_here", "_law_blocks", "_law_size", "_law_rows"]) F1 hm rfl (fun _ _ _ _ _ _ us hl => match us, hl with | [_, _, _, _], _ => rfl)
  | 22, h => by
    cases (show some (("law" : Str), ([] : List Nat), 1) = some (x, io, n) from h)
    obtain ⟨fa, fd, F1, hm⟩ := F.f22
    exact mkC0 (ps := ["_law_script"]) F1 hm rfl (fun _ _ _ _ _ _ us hl => match us, hl with | [_], _ => rfl)
  | k + 23, h => nomatch (show none = some (x, io, n) from h)
theorem step (M : Mg mg bl cs) (F : Fx K mg) (ih : IH P w K mg base d) : ∀ (i : Nat) (x : Str) (io : List Nat) (n : Nat), fs[i]? = some (x, io, n) → FnC P w K mg base xr0 (Cl (d + 1)) (d + 1) i x io n [] := fun i x io n h => match i, h with
  | 0, h => by
    cases (show some (("is_integer" : Str), ([] : List Nat), 1) = some (x, io, n) from h)
    obtain ⟨fa, fd, F1, hm⟩ := F.f0
    exact mkC (fd0 := fd0) F1 hm sc0 rfl rfl rfl rfl rfl (by decide) rfl (fun _ _ _ _ _ _ us hl => match us, hl with | [_], _ => rfl) (bd0 M ih)
  | 1, h => by
    cases (show some (("is_between" : Str), ([] : List Nat), 3) = some (x, io, n) from h)
    obtain ⟨fa, fd, F1, hm⟩ := F.f1
    exact mkC (fd0 := fd1) F1 hm sc1 rfl rfl rfl rfl rfl (by decide) rfl (fun _ _ _ _ _ _ us hl => match us, hl with | [_, _, _], _ => rfl) (bd1 M ih)
  | 2, h => by
    cases (show some (("is_row" : Str), ([] : List Nat), 1) = some (x, io, n) from h)
    obtain ⟨fa, fd, F1, hm⟩ := F.f2
    exact mkC (fd0 := fd2) F1 hm sc2 rfl rfl rfl rfl rfl (by decide) rfl (fun _ _ _ _ _ _ us hl => match us, hl with | [_], _ => rfl) (bd2 M ih)
  | 3, h => by
    cases (show some (("check_number" : Str), ([] : List Nat), 3) = some (x, io, n) from h)
    obtain ⟨fa, fd, F1, hm⟩ := F.f3
    exact mkC (fd0 := fd3) F1 hm sc3 rfl rfl rfl rfl rfl (by decide) rfl (fun _ _ _ _ _ _ us hl => match us, hl with | [_, _, _], _ => rfl) (bd3 M ih)
  | 4, h => by
    cases (show some (("check_store" : Str), ([] : List Nat), 3) = some (x, io, n) from h)
    obtain ⟨fa, fd, F1, hm⟩ := F.f4
    exact mkC (fd0 := fd4) F1 hm sc4 rfl rfl rfl rfl rfl (by decide) rfl (fun _ _ _ _ _ _ us hl => match us, hl with | [_, _, _], _ => rfl) (bd4 M ih)
  | 5, h => by
    cases (show some (("check_written" : Str), ([] : List Nat), 2) = some (x, io, n) from h)
    obtain ⟨fa, fd, F1, hm⟩ := F.f5
    exact mkC (fd0 := fd5) F1 hm sc5 rfl rfl rfl rfl rfl (by decide) rfl (fun _ _ _ _ _ _ us hl => match us, hl with | [_, _], _ => rfl) (bd5 M ih)
  | 6, h => by
    cases (show some (("touched" : Str), ([] : List Nat), 3) = some (x, io, n) from h)
    obtain ⟨fa, fd, F1, hm⟩ := F.f6
    exact mkC (fd0 := fd6) F1 hm sc6 rfl rfl rfl rfl rfl (by decide) rfl (fun _ _ _ _ _ _ us hl => match us, hl with | [_, _, _], _ => rfl) (bd6 M ih)
  | 7, h => by
    cases (show some (("length_of" : Str), ([] : List Nat), 3) = some (x, io, n) from h)
    obtain ⟨fa, fd, F1, hm⟩ := F.f7
    exact mkC (fd0 := fd7) F1 hm sc7 rfl rfl rfl rfl rfl (by decide) rfl (fun _ _ _ _ _ _ us hl => match us, hl with | [_, _, _], _ => rfl) (bd7 M ih)
  | 8, h => by
    cases (show some (("copied" : Str), ([] : List Nat), 3) = some (x, io, n) from h)
    obtain ⟨fa, fd, F1, hm⟩ := F.f8
    exact mkC (fd0 := fd8) F1 hm sc8 rfl rfl rfl rfl rfl (by decide) rfl (fun _ _ _ _ _ _ us hl => match us, hl with | [_, _, _], _ => rfl) (bd8 M ih)
  | 9, h => by
    cases (show some (("raised" : Str), ([] : List Nat), 2) = some (x, io, n) from h)
    obtain ⟨fa, fd, F1, hm⟩ := F.f9
    exact mkC (fd0 := fd9) F1 hm sc9 rfl rfl rfl rfl rfl (by decide) rfl (fun _ _ _ _ _ _ us hl => match us, hl with | [_, _], _ => rfl) (bd9 M ih)
  | 10, h => by
    cases (show some (("least_touched" : Str), ([] : List Nat), 3) = some (x, io, n) from h)
    obtain ⟨fa, fd, F1, hm⟩ := F.f10
    exact mkC (fd0 := fd10) F1 hm sc10 rfl rfl rfl rfl rfl (by decide) rfl (fun _ _ _ _ _ _ us hl => match us, hl with | [_, _, _], _ => rfl) (bd10 M ih)
  | 11, h => by
    cases (show some (("most_touched" : Str), ([] : List Nat), 3) = some (x, io, n) from h)
    obtain ⟨fa, fd, F1, hm⟩ := F.f11
    exact mkC (fd0 := fd11) F1 hm sc11 rfl rfl rfl rfl rfl (by decide) rfl (fun _ _ _ _ _ _ us hl => match us, hl with | [_, _, _], _ => rfl) (bd11 M ih)
  | 12, h => by
    cases (show some (("least_copied" : Str), ([] : List Nat), 3) = some (x, io, n) from h)
    obtain ⟨fa, fd, F1, hm⟩ := F.f12
    exact mkC (fd0 := fd12) F1 hm sc12 rfl rfl rfl rfl rfl (by decide) rfl (fun _ _ _ _ _ _ us hl => match us, hl with | [_, _, _], _ => rfl) (bd12 M ih)
  | 13, h => by
    cases (show some (("most_copied" : Str), ([] : List Nat), 3) = some (x, io, n) from h)
    obtain ⟨fa, fd, F1, hm⟩ := F.f13
    exact mkC (fd0 := fd13) F1 hm sc13 rfl rfl rfl rfl rfl (by decide) rfl (fun _ _ _ _ _ _ us hl => match us, hl with | [_, _, _], _ => rfl) (bd13 M ih)
  | 14, h => by
    cases (show some (("packed" : Str), ([] : List Nat), 3) = some (x, io, n) from h)
    obtain ⟨fa, fd, F1, hm⟩ := F.f14
    exact mkC (fd0 := fd14) F1 hm sc14 rfl rfl rfl rfl rfl (by decide) rfl (fun _ _ _ _ _ _ us hl => match us, hl with | [_, _, _], _ => rfl) (bd14 M ih)
  | 15, h => by
    cases (show some (("spread" : Str), ([] : List Nat), 3) = some (x, io, n) from h)
    obtain ⟨fa, fd, F1, hm⟩ := F.f15
    exact mkC (fd0 := fd15) F1 hm sc15 rfl rfl rfl rfl rfl (by decide) rfl (fun _ _ _ _ _ _ us hl => match us, hl with | [_, _, _], _ => rfl) (bd15 M ih)
  | 16, h => by
    cases (show some (("_law_pool" : Str), ([] : List Nat), 2) = some (x, io, n) from h)
    obtain ⟨fa, fd, F1, hm⟩ := F.f16
    exact mkC (fd0 := fd16) F1 hm sc16 rfl rfl rfl rfl rfl (by decide) rfl (fun _ _ _ _ _ _ us hl => match us, hl with | [_, _], _ => rfl) (bd16 M ih)
  | 17, h => by
    cases (show some (("_law_take" : Str), ([0] : List Nat), 2) = some (x, io, n) from h)
    obtain ⟨fa, fd, F1, hm⟩ := F.f17
    exact mkC (fd0 := fd17) F1 hm sc17 rfl rfl rfl rfl rfl (by decide) rfl (fun _ _ _ _ _ _ us hl => match us, hl with | [_, _], _ => rfl) (bd17 M ih)
  | 18, h => by
    cases (show some (("_law_sets" : Str), ([] : List Nat), 2) = some (x, io, n) from h)
    obtain ⟨fa, fd, F1, hm⟩ := F.f18
    exact mkC (fd0 := fd18) F1 hm sc18 rfl rfl rfl rfl rfl (by decide) rfl (fun _ _ _ _ _ _ us hl => match us, hl with | [_, _], _ => rfl) (bd18 M ih)
  | 19, h => by
    cases (show some (("_law_copied" : Str), ([] : List Nat), 3) = some (x, io, n) from h)
    obtain ⟨fa, fd, F1, hm⟩ := F.f19
    exact mkC (fd0 := fd19) F1 hm sc19 rfl rfl rfl rfl rfl (by decide) rfl (fun _ _ _ _ _ _ us hl => match us, hl with | [_, _, _], _ => rfl) (bd19 M ih)
  | 20, h => by
    cases (show some (("_law_is_set" : Str), ([] : List Nat), 3) = some (x, io, n) from h)
    obtain ⟨fa, fd, F1, hm⟩ := F.f20
    exact mkC (fd0 := fd20) F1 hm sc20 rfl rfl rfl rfl rfl (by decide) rfl (fun _ _ _ _ _ _ us hl => match us, hl with | [_, _, _], _ => rfl) (bd20 M ih)
  | 21, h => by
    cases (show some (("_law_row_right" : Str), ([0] : List Nat), 4) = some (x, io, n) from h)
    obtain ⟨fa, fd, F1, hm⟩ := F.f21
    exact mkC (fd0 := fd21) F1 hm sc21 rfl rfl rfl rfl rfl (by decide) rfl (fun _ _ _ _ _ _ us hl => match us, hl with | [_, _, _, _], _ => rfl) (bd21 M ih)
  | 22, h => by
    cases (show some (("law" : Str), ([] : List Nat), 1) = some (x, io, n) from h)
    obtain ⟨fa, fd, F1, hm⟩ := F.f22
    exact mkC (fd0 := fd22) F1 hm sc22 rfl rfl rfl rfl rfl (by decide) rfl (fun _ _ _ _ _ _ us hl => match us, hl with | [_], _ => rfl) (bd22 M ih)
  | k + 23, h => nomatch (show none = some (x, io, n) from h)
theorem all_ok (M : Mg mg bl cs) (F : Fx K mg) : ∀ d, IH P w K mg base d
  | 0 => zero F
  | d + 1 => step M F (all_ok M F d)
end
def dd0 : He.DefD := ⟨("is_integer", none), "is_integer", "is_integer", defArgs st0, defBody st0, defScope st0, [], []⟩
def dd1 : He.DefD := ⟨("is_between", none), "is_between", "is_between", defArgs st1, defBody st1, defScope st1, [], []⟩
def dd2 : He.DefD := ⟨("is_row", none), "is_row", "is_row", defArgs st2, defBody st2, defScope st2, [], []⟩
def dd3 : He.DefD := ⟨("check_number", none), "check_number", "check_number", defArgs st3, defBody st3, defScope st3, [], []⟩
def dd4 : He.DefD := ⟨("check_store", none), "check_store", "check_store", defArgs st4, defBody st4, defScope st4, [], []⟩
def dd5 : He.DefD := ⟨("check_written", none), "check_written", "check_written", defArgs st5, defBody st5, defScope st5, [], []⟩
def dd6 : He.DefD := ⟨("touched", none), "touched", "touched", defArgs st6, defBody st6, defScope st6, [], []⟩
def dd7 : He.DefD := ⟨("length_of", none), "length_of", "length_of", defArgs st7, defBody st7, defScope st7, [], []⟩
def dd8 : He.DefD := ⟨("copied", none), "copied", "copied", defArgs st8, defBody st8, defScope st8, [], []⟩
def dd9 : He.DefD := ⟨("raised", none), "raised", "raised", defArgs st9, defBody st9, defScope st9, [], []⟩
def dd10 : He.DefD := ⟨("least_touched", none), "least_touched", "least_touched", defArgs st10, defBody st10, defScope st10, [], []⟩
def dd11 : He.DefD := ⟨("most_touched", none), "most_touched", "most_touched", defArgs st11, defBody st11, defScope st11, [], []⟩
def dd12 : He.DefD := ⟨("least_copied", none), "least_copied", "least_copied", defArgs st12, defBody st12, defScope st12, [], []⟩
def dd13 : He.DefD := ⟨("most_copied", none), "most_copied", "most_copied", defArgs st13, defBody st13, defScope st13, [], []⟩
def dd14 : He.DefD := ⟨("packed", none), "packed", "packed", defArgs st14, defBody st14, defScope st14, [], []⟩
def dd15 : He.DefD := ⟨("spread", none), "spread", "spread", defArgs st15, defBody st15, defScope st15, [], []⟩
def dd16 : He.DefD := ⟨("_law_pool", none), "_law_pool", "_law_pool", defArgs st16, defBody st16, defScope st16, [], []⟩
def dd17 : He.DefD := ⟨("_law_take", none), "_law_take", "_law_take", defArgs st17, defBody st17, defScope st17, [], []⟩
def dd18 : He.DefD := ⟨("_law_sets", none), "_law_sets", "_law_sets", defArgs st18, defBody st18, defScope st18, [], []⟩
def dd19 : He.DefD := ⟨("_law_copied", none), "_law_copied", "_law_copied", defArgs st19, defBody st19, defScope st19, [], []⟩
def dd20 : He.DefD := ⟨("_law_is_set", none), "_law_is_set", "_law_is_set", defArgs st20, defBody st20, defScope st20, [], []⟩
def dd21 : He.DefD := ⟨("_law_row_right", none), "_law_row_right", "_law_row_right", defArgs st21, defBody st21, defScope st21, [], []⟩
def dd22 : He.DefD := ⟨("law", none), "law", "law", defArgs st22, defBody st22, defScope st22, [], []⟩
def fn : List He.DefD := [dd0, dd1, dd2, dd3, dd4, dd5, dd6, dd7, dd8, dd9, dd10, dd11, dd12, dd13, dd14, dd15, dd16, dd17, dd18, dd19, dd20, dd21, dd22]
def fa : List He.Fa := [.glo "is_integer", .glo "is_between", .glo "is_row", .glo "check_number", .glo "check_store", .glo "check_written", .glo "touched", .glo "length_of", .glo "copied", .glo "raised", .glo "least_touched", .glo "most_touched", .glo "least_copied", .glo "most_copied", .glo "packed", .glo "spread", .glo "_law_pool", .glo "_law_take", .glo "_law_sets", .glo "_law_copied", .glo "_law_is_set", .glo "_law_row_right", .glo "law", .int "MOST" 10000, .free "all", .free "bool", .free "int", .free "isinstance", .free "len", .free "list", .free "max", .free "min", .free "range", .free "set", .free "sorted", .free "sum", .free "tuple"]
abbrev R : PySem.W.OpenRow := PySem.W.OpenLaw.row PySem.Challenge.rw_markedregions_k69_whole_sizes_by_all_set
abbrev hk : PySem.W.Hook := He.hookD 4 fa fn
def ob (s : PySem.W.SharedT) : He.AlD := He.obsDG 4 fa fn (HandSHeadRun.getT s)
theorem ob_eq (s : PySem.W.SharedT) : ob s = hk.obs s.abs := He.obsDG_eq (HandSHeadRun.getT_eq s)
def names : List PySem.Str := (List.map PySem.Str.ofString ["__name__", "is_integer", "is_between", "is_row", "RegionsError", "BadNumber", "MOST", "check_number", "check_store", "check_written", "touched", "length_of", "copied", "raised", "least_touched", "most_touched", "least_copied", "most_copied", "packed", "spread", "_law_pool", "_law_take", "_law_sets", "_law_copied", "_law_is_set", "_law_row_right"])
theorem run (w : World) : HandSHeadRun.RunEq R (PySem.W.view R.prog [29]) hk ob 1300 names w := by
  intro os
  kernel_rfl
section
variable {K : PySem.W.Frag} {h : Heap} {mg : Str → Option Value} (X : K.In h) (G : h.Ns mainGlobals mg) (c : He.SaysD fa fn K)
include X G c
theorem fx_of : Fx K mg := ⟨
    (by
      obtain ⟨fd, F⟩ := c.def_ 0 (d := dd0) rfl
      exact ⟨_, fd, F, He.glo_ok X G (c.fact 0 (f := .glo "is_integer") rfl)⟩),
    (by
      obtain ⟨fd, F⟩ := c.def_ 1 (d := dd1) rfl
      exact ⟨_, fd, F, He.glo_ok X G (c.fact 1 (f := .glo "is_between") rfl)⟩),
    (by
      obtain ⟨fd, F⟩ := c.def_ 2 (d := dd2) rfl
      exact ⟨_, fd, F, He.glo_ok X G (c.fact 2 (f := .glo "is_row") rfl)⟩),
    (by
      obtain ⟨fd, F⟩ := c.def_ 3 (d := dd3) rfl
      exact ⟨_, fd, F, He.glo_ok X G (c.fact 3 (f := .glo "check_number") rfl)⟩),
    (by
      obtain ⟨fd, F⟩ := c.def_ 4 (d := dd4) rfl
      exact ⟨_, fd, F, He.glo_ok X G (c.fact 4 (f := .glo "check_store") rfl)⟩),
    (by
      obtain ⟨fd, F⟩ := c.def_ 5 (d := dd5) rfl
      exact ⟨_, fd, F, He.glo_ok X G (c.fact 5 (f := .glo "check_written") rfl)⟩),
    (by
      obtain ⟨fd, F⟩ := c.def_ 6 (d := dd6) rfl
      exact ⟨_, fd, F, He.glo_ok X G (c.fact 6 (f := .glo "touched") rfl)⟩),
    (by
      obtain ⟨fd, F⟩ := c.def_ 7 (d := dd7) rfl
      exact ⟨_, fd, F, He.glo_ok X G (c.fact 7 (f := .glo "length_of") rfl)⟩),
    (by
      obtain ⟨fd, F⟩ := c.def_ 8 (d := dd8) rfl
      exact ⟨_, fd, F, He.glo_ok X G (c.fact 8 (f := .glo "copied") rfl)⟩),
    (by
      obtain ⟨fd, F⟩ := c.def_ 9 (d := dd9) rfl
      exact ⟨_, fd, F, He.glo_ok X G (c.fact 9 (f := .glo "raised") rfl)⟩),
    (by
      obtain ⟨fd, F⟩ := c.def_ 10 (d := dd10) rfl
      exact ⟨_, fd, F, He.glo_ok X G (c.fact 10 (f := .glo "least_touched") rfl)⟩),
    (by
      obtain ⟨fd, F⟩ := c.def_ 11 (d := dd11) rfl
      exact ⟨_, fd, F, He.glo_ok X G (c.fact 11 (f := .glo "most_touched") rfl)⟩),
    (by
      obtain ⟨fd, F⟩ := c.def_ 12 (d := dd12) rfl
      exact ⟨_, fd, F, He.glo_ok X G (c.fact 12 (f := .glo "least_copied") rfl)⟩),
    (by
      obtain ⟨fd, F⟩ := c.def_ 13 (d := dd13) rfl
      exact ⟨_, fd, F, He.glo_ok X G (c.fact 13 (f := .glo "most_copied") rfl)⟩),
    (by
      obtain ⟨fd, F⟩ := c.def_ 14 (d := dd14) rfl
      exact ⟨_, fd, F, He.glo_ok X G (c.fact 14 (f := .glo "packed") rfl)⟩),
    (by
      obtain ⟨fd, F⟩ := c.def_ 15 (d := dd15) rfl
      exact ⟨_, fd, F, He.glo_ok X G (c.fact 15 (f := .glo "spread") rfl)⟩),
    (by
      obtain ⟨fd, F⟩ := c.def_ 16 (d := dd16) rfl
      exact ⟨_, fd, F, He.glo_ok X G (c.fact 16 (f := .glo "_law_pool") rfl)⟩),
    (by
      obtain ⟨fd, F⟩ := c.def_ 17 (d := dd17) rfl
      exact ⟨_, fd, F, He.glo_ok X G (c.fact 17 (f := .glo "_law_take") rfl)⟩),
    (by
      obtain ⟨fd, F⟩ := c.def_ 18 (d := dd18) rfl
      exact ⟨_, fd, F, He.glo_ok X G (c.fact 18 (f := .glo "_law_sets") rfl)⟩),
    (by
      obtain ⟨fd, F⟩ := c.def_ 19 (d := dd19) rfl
      exact ⟨_, fd, F, He.glo_ok X G (c.fact 19 (f := .glo "_law_copied") rfl)⟩),
    (by
      obtain ⟨fd, F⟩ := c.def_ 20 (d := dd20) rfl
      exact ⟨_, fd, F, He.glo_ok X G (c.fact 20 (f := .glo "_law_is_set") rfl)⟩),
    (by
      obtain ⟨fd, F⟩ := c.def_ 21 (d := dd21) rfl
      exact ⟨_, fd, F, He.glo_ok X G (c.fact 21 (f := .glo "_law_row_right") rfl)⟩),
    (by
      obtain ⟨fd, F⟩ := c.def_ 22 (d := dd22) rfl
      exact ⟨_, fd, F, He.glo_ok X G (c.fact 22 (f := .glo "law") rfl)⟩)⟩
theorem mg_of : Mg mg bl cs := by
  refine ⟨fun x h => ?_, fun i x n h => ?_⟩
  · have hx := List.contains_iff_mem.mp h
    simp only [bl, List.mem_cons, List.not_mem_nil, or_false] at hx
    rcases hx with rfl | rfl | rfl | rfl | rfl | rfl | rfl | rfl | rfl | rfl | rfl | rfl | rfl
    · exact He.free_ok X G (c.fact 24 (f := .free "all") rfl)
    · exact He.free_ok X G (c.fact 25 (f := .free "bool") rfl)
    · exact He.free_ok X G (c.fact 26 (f := .free "int") rfl)
    · exact He.free_ok X G (c.fact 27 (f := .free "isinstance") rfl)
    · exact He.free_ok X G (c.fact 28 (f := .free "len") rfl)
    · exact He.free_ok X G (c.fact 29 (f := .free "list") rfl)
    · exact He.free_ok X G (c.fact 30 (f := .free "max") rfl)
    · exact He.free_ok X G (c.fact 31 (f := .free "min") rfl)
    · exact He.free_ok X G (c.fact 32 (f := .free "range") rfl)
    · exact He.free_ok X G (c.fact 33 (f := .free "set") rfl)
    · exact He.free_ok X G (c.fact 34 (f := .free "sorted") rfl)
    · exact He.free_ok X G (c.fact 35 (f := .free "sum") rfl)
    · exact He.free_ok X G (c.fact 36 (f := .free "tuple") rfl)
  · match i, h with
    | 0, h =>
      cases (show some (("MOST" : Str), (10000 : Int)) = some (x, n) from h)
      exact He.int_ok X G (c.fact 23 (f := .int "MOST" 10000) rfl)
    | k + 1, h => exact nomatch (show none = some (x, n) from h)
end
theorem law_of (law : ∀ ns : List Int, ∃ o, Cl 8 22 [.val (.scr ns)] = .ok (.val (.bl true)) o) : PySem.Challenge.rw_markedregions_k69_whole_sizes_by_all_set.Holds := by
  w_on; o_law
  refine HandSHeadRun.head_any (r := PySem.W.OpenLaw.row PySem.Challenge.rw_markedregions_k69_whole_sizes_by_all_set) (q := PySem.W.view (PySem.W.OpenLaw.row PySem.Challenge.rw_markedregions_k69_whole_sizes_by_all_set).prog [29]) (H := hk) (ob := ob) (M := 1300) (loose := names) (d := HandSHeadRun.topDef (PySem.W.OpenLaw.row PySem.Challenge.rw_markedregions_k69_whole_sizes_by_all_set).prog 29) (kwd := []) ob_eq
    (by kernel_rfl) (fun s => by kernel_rfl) run (by kernel_rfl) (by kernel_rfl) (by kernel_rfl) (by rfl) (by first | assumption | decide +kernel) (by decide +kernel) ⟨rfl, rfl, rfl, rfl, rfl, by decide +kernel⟩ ?hw ?hc
  case hw => w_witness2
  case hc =>
    refine L2.walk_ofE (l := PySem.Challenge.rw_markedregions_k69_whole_sizes_by_all_set) (n := 63) (k := 8) (x := "_law_script") (CX := Ev.CXw PySem.Challenge.rw_markedregions_k69_whole_sizes_by_all_set.prog) rfl (by decide) (by kernel_rfl) ⟨rfl, by decide, by decide⟩ ?F (fun H s e s' z => Ev.cxw_end _ H s e s' z)
    intro w mg fa h Y G hmg0
    obtain ⟨K, KX, c⟩ := Y
    have hmg : mg ("law" : PySem.Str) = some (.ref fa) := by
      have e : (HandSHeadRun.topDef (PySem.W.OpenLaw.row PySem.Challenge.rw_markedregions_k69_whole_sizes_by_all_set).prog 29).name = ("law" : PySem.Str) := by kernel_rfl
      rw [← e]
      exact hmg0
    have F := fx_of KX G c
    have M := mg_of KX G c
    obtain ⟨fa', fd, FL, hm⟩ := F.f22
    have e := hmg.symm.trans hm
    cases e
    have b := FunD.bindsA (ps := ["_law_script"]) FL fun _ _ _ _ _ _ us hl => match us, hl with | [_], _ => rfl
    refine ⟨K, fd, spC K xr0 (Cl 8) 22 [] 1, KX, fun s v => b s [v] rfl, fun H a ns hl _ hS => ?_, fun base hb hg => ?_⟩
    · obtain ⟨o, ho⟩ := law ns
      exact Ev.end_of hS ho
    · exact Ev.fnOk_cx (Ev.fn_succ (i := 22) (fd0 := fd22) (tab := tab) FL sc22 rfl rfl rfl (by decide) (Ev.allLt_of (by decide)) (bd22 M (all_ok M F 7))) fun _ _ _ _ _ _ z => ⟨w, z⟩
end Zk69
set_option maxHeartbeats 4000000
namespace Zk69
open PySem Ev
theorem g0 : cstG cs 0 = some (.int 10000) := rfl
theorem c0 (d : Nat) (i : Int) : Cl (d + 1) 0 [.val (.int i)] = .ok (.val (.bl true)) [] := rfl
theorem c1 (d : Nat) (t l m : Int) : Cl (d + 2) 1 [.val (.int t), .val (.int l), .val (.int m)] = .ok (.val (.bl (decide (l ≤ t) && decide (t ≤ m)))) [] := by
  refine call_rt (fd := fd1) (env := [some (.val (.int t)), some (.val (.int l)), some (.val (.int m))]) rfl rfl ?_
  have h := c0 d t
  by_cases a : l ≤ t <;> simp [fd1, ir1, qE_int, qE_bl, qE_non, qE_str, qE_cst, qE_rd, qE_rdx, qE_op, qE_neg, qE_cmp, qE_chn, qE_one, qE_and, qE_or, qE_not, qE_ife, qE_tup, qE_lst, qE_ix, qE_sl, qE_bi, qE_isi, qE_isis, qE_call, qE_callk, qE_lenS, qE_srtS, qE_lrng3, qE_rev, qE_lrng, qSe_of, qEs_nil, qEs_cons, qO_no, qO_so, qT_v, qT_one, qT_and, qT_or, qT_not, qTs_nil, qTs_cons, qI_e, qI_rng, qA_nil, qA_cons, qA_io, qS_asg, qS_asgT, qS_par, qS_setx, qS_app, qS_expr, qS_ret, qS_retv, qS_retn, qS_ife, qS_pass, qS_never, qSs_nil, qSs_cons, R.bind, R.of, W.fz, fzs, backO, cmpT, cmpI2, cmpInt, T.tru, opT, opInt, biT, lenT, listT, tupleT, sortedT, minT, maxT, intT, sumT, allT, anyT, ints_map, bls_map, fzs_iv, eqT_int, eqT_ints, hidOk, tgIn, wipeE, backE, isiT, tyT, Ty.sub, ixT, -List.map_map, h, a]
theorem c3 (d : Nat) (t l m : Int) (h1 : l ≤ t) (h2 : t ≤ m) : Cl (d + 3) 3 [.val (.int t), .val (.int l), .val (.int m)] = .ok (.val .non) [] := by
  refine call_nx (fd := fd3) (env := [some (.val (.int t)), some (.val (.int l)), some (.val (.int m))]) rfl rfl ?_
  have h := c1 d t l m
  simp [fd3, ir3, qE_int, qE_bl, qE_non, qE_str, qE_cst, qE_rd, qE_rdx, qE_op, qE_neg, qE_cmp, qE_chn, qE_one, qE_and, qE_or, qE_not, qE_ife, qE_tup, qE_lst, qE_ix, qE_sl, qE_bi, qE_isi, qE_isis, qE_call, qE_callk, qE_lenS, qE_srtS, qE_lrng3, qE_rev, qE_lrng, qSe_of, qEs_nil, qEs_cons, qO_no, qO_so, qT_v, qT_one, qT_and, qT_or, qT_not, qTs_nil, qTs_cons, qI_e, qI_rng, qA_nil, qA_cons, qA_io, qS_asg, qS_asgT, qS_par, qS_setx, qS_app, qS_expr, qS_ret, qS_retv, qS_retn, qS_ife, qS_pass, qS_never, qSs_nil, qSs_cons, R.bind, R.of, W.fz, fzs, backO, cmpT, cmpI2, cmpInt, T.tru, opT, opInt, biT, lenT, listT, tupleT, sortedT, minT, maxT, intT, sumT, allT, anyT, ints_map, bls_map, fzs_iv, eqT_int, eqT_ints, hidOk, tgIn, wipeE, backE, isiT, tyT, Ty.sub, ixT, -List.map_map, h, h1, h2]
theorem c4 (d : Nat) (b s m : Int) (h1 : 1 ≤ b) (h2 : b ≤ 10000) (h3 : 1 ≤ s) (h4 : s ≤ 10000) (h5 : 1 ≤ m) (h6 : m ≤ b) : Cl (d + 4) 4 [.val (.int b), .val (.int s), .val (.int m)] = .ok (.val .non) [] := by
  refine call_nx (fd := fd4) (env := [some (.val (.int b)), some (.val (.int s)), some (.val (.int m))]) rfl rfl ?_
  have a1 := c3 d b 1 10000 h1 h2
  have a2 := c3 d s 1 10000 h3 h4
  have a3 := c3 d m 1 b h5 h6
  simp [fd4, ir4, qE_int, qE_bl, qE_non, qE_str, qE_cst, qE_rd, qE_rdx, qE_op, qE_neg, qE_cmp, qE_chn, qE_one, qE_and, qE_or, qE_not, qE_ife, qE_tup, qE_lst, qE_ix, qE_sl, qE_bi, qE_isi, qE_isis, qE_call, qE_callk, qE_lenS, qE_srtS, qE_lrng3, qE_rev, qE_lrng, qSe_of, qEs_nil, qEs_cons, qO_no, qO_so, qT_v, qT_one, qT_and, qT_or, qT_not, qTs_nil, qTs_cons, qI_e, qI_rng, qA_nil, qA_cons, qA_io, qS_asg, qS_asgT, qS_par, qS_setx, qS_app, qS_expr, qS_ret, qS_retv, qS_retn, qS_ife, qS_pass, qS_never, qSs_nil, qSs_cons, R.bind, R.of, W.fz, fzs, backO, cmpT, cmpI2, cmpInt, T.tru, opT, opInt, biT, lenT, listT, tupleT, sortedT, minT, maxT, intT, sumT, allT, anyT, ints_map, bls_map, fzs_iv, eqT_int, eqT_ints, hidOk, tgIn, wipeE, backE, isiT, tyT, Ty.sub, ixT, -List.map_map, g0, a1, a2, a3]
/-- a list or a tuple of ints -/
def tl (b : Bool) (is : List Int) : T := match b with
  | true => .tup (is.map .int)
  | false => .lst (is.map .int)
theorem c2 (d : Nat) (b : Bool) (is : List Int) : Cl (d + 1) 2 [.val (tl b is)] = .ok (.val (.bl true)) [] := by cases b <;> rfl
theorem c5 (d : Nat) (q : Bool) (b : Int) (is : List Int) (hl : is.length ≤ 4000) (hr : ∀ i ∈ is, 0 ≤ i ∧ i ≤ b - 1) (hn : (dedI [] is).length = is.length) : Cl (d + 3) 5 [.val (.int b), .val (tl q is)] = .ok (.val .non) [] := by
  refine call_nx (fd := fd5) (env := [some (.val (.int b)), some (.val (tl q is)), none]) rfl rfl ?_
  have a2 := c2 (d + 1) q is
  have l1 : lcL (.var 2) [2] (evTs (cstG cs) (Cl (d + 2)) .nil) (evE (cstG cs) (Cl (d + 2)) (.call 1 (.cons (.rd 2) (.cons (.int 0) (.cons (.op .Sub (.rd 0) (.int 1)) .nil))) [])) (is.map .int) [] [some (.val (.int b)), some (.val (tl q is)), none] = .ok (is.map fun i => .val (.bl (decide (0 ≤ i) && decide (i ≤ b - 1)))) [some (.val (.int b)), some (.val (tl q is)), none] := by
    refine lcL_all rfl is (by omega) (fun a _ => rfl) fun a _ => ?_
    have h := c1 d a 0 (b - 1)
    simp [qE_int, qE_bl, qE_non, qE_str, qE_cst, qE_rd, qE_rdx, qE_op, qE_neg, qE_cmp, qE_chn, qE_one, qE_and, qE_or, qE_not, qE_ife, qE_tup, qE_lst, qE_ix, qE_sl, qE_bi, qE_isi, qE_isis, qE_call, qE_callk, qE_lenS, qE_srtS, qE_lrng3, qE_rev, qE_lrng, qSe_of, qEs_nil, qEs_cons, qO_no, qO_so, qT_v, qT_one, qT_and, qT_or, qT_not, qTs_nil, qTs_cons, qI_e, qI_rng, qA_nil, qA_cons, qA_io, qS_asg, qS_asgT, qS_par, qS_setx, qS_app, qS_expr, qS_ret, qS_retv, qS_retn, qS_ife, qS_pass, qS_never, qSs_nil, qSs_cons, R.bind, R.of, W.fz, fzs, backO, cmpT, cmpI2, cmpInt, T.tru, opT, opInt, biT, lenT, listT, tupleT, sortedT, minT, maxT, intT, sumT, allT, anyT, ints_map, bls_map, fzs_iv, eqT_int, eqT_ints, hidOk, tgIn, wipeE, backE, isiT, tyT, Ty.sub, ixT, -List.map_map, h]
  have e1 : (fzs (is.map fun i => W.val (.bl (decide (0 ≤ i) && decide (i ≤ b - 1))))) = (is.map fun i => decide (0 ≤ i) && decide (i ≤ b - 1)).map .bl := by
    rw [fzs_map, List.map_map]
    rfl
  have e2 : (is.map fun i => decide (0 ≤ i) && decide (i ≤ b - 1)).all id = true := by
    rw [List.all_map, List.all_eq_true]
    intro i hi
    simp [hr i hi]
  have l2 : scL (.var 2) [2] (evTs (cstG cs) (Cl (d + 2)) .nil) (evE (cstG cs) (Cl (d + 2)) (.rd 2)) (is.map .int) [] [some (.val (.int b)), some (.val (tl q is)), none] = .ok (dedI [] is) [some (.val (.int b)), some (.val (tl q is)), none] := by
    have := scL_all (e := T.int) (f := fun i : Int => i) (i := 2) (test := evTs (cstG cs) (Cl (d + 2)) .nil) (elt := evE (cstG cs) (Cl (d + 2)) (.rd 2)) (env := [some (.val (.int b)), some (.val (tl q is)), none]) rfl is (by omega) (fun a _ => rfl) fun a _ => rfl
    rw [List.map_id'] at this
    exact this
  have w1 : ∀ z : W, (W.lst (is.map fun i => z)).fz = .lst (fzs (is.map fun i => z)) := fun z => rfl
  have i1 : evI (cstG cs) (Cl (d + 2)) (.e (.rd 1)) [some (.val (.int b)), some (.val (tl q is)), none] = .ok (is.map .int) [some (.val (.int b)), some (.val (tl q is)), none] := by cases q <;> rfl
  have v1 := ev_lc i1 rfl l1
  have v2 := ev_sc i1 rfl l2
  cases q <;> simp only [tl] at v1 v2 a2 ⊢ <;> simp [fd5, ir5, qE_int, qE_bl, qE_non, qE_str, qE_cst, qE_rd, qE_rdx, qE_op, qE_neg, qE_cmp, qE_chn, qE_one, qE_and, qE_or, qE_not, qE_ife, qE_tup, qE_lst, qE_ix, qE_sl, qE_bi, qE_isi, qE_isis, qE_call, qE_callk, qE_lenS, qE_srtS, qE_lrng3, qE_rev, qE_lrng, qSe_of, qEs_nil, qEs_cons, qO_no, qO_so, qT_v, qT_one, qT_and, qT_or, qT_not, qTs_nil, qTs_cons, qI_e, qI_rng, qA_nil, qA_cons, qA_io, qS_asg, qS_asgT, qS_par, qS_setx, qS_app, qS_expr, qS_ret, qS_retv, qS_retn, qS_ife, qS_pass, qS_never, qSs_nil, qSs_cons, R.bind, R.of, W.fz, fzs, backO, cmpT, cmpI2, cmpInt, T.tru, opT, opInt, biT, lenT, listT, tupleT, sortedT, minT, maxT, intT, sumT, allT, anyT, ints_map, bls_map, fzs_iv, eqT_int, eqT_ints, hidOk, tgIn, wipeE, backE, isiT, tyT, Ty.sub, ixT, -List.map_map, a2, v1, v2, e1, e2, hn]
/-- the regions of a row -/
def regsI (s : Int) (is : List Int) : List Int := sortI (dedI [] (is.map fun i => i / s))
theorem c6 (d : Nat) (q : Bool) (b s : Int) (is : List Int) (h1 : 1 ≤ b) (h2 : b ≤ 10000) (h3 : 1 ≤ s) (h4 : s ≤ 10000) (hl : is.length < 64) (hr : ∀ i ∈ is, 0 ≤ i ∧ i ≤ b - 1) (hn : (dedI [] is).length = is.length) :
    Cl (d + 4) 6 [.val (.int b), .val (.int s), .val (tl q is)] = .ok (.lst ((regsI s is).map fun i => .val (.int i))) [] := by
  refine call_rt (fd := fd6) (env := [some (.val (.int b)), some (.val (.int s)), some (.val (tl q is)), none]) rfl rfl ?_
  have a1 := c3 d b 1 10000 h1 h2
  have a2 := c3 d s 1 10000 h3 h4
  have a3 := c5 d q b is (by omega) hr hn
  have i1 : evI (cstG cs) (Cl (d + 3)) (.e (.rd 2)) [some (.val (.int b)), some (.val (.int s)), some (.val (tl q is)), none] = .ok (is.map .int) [some (.val (.int b)), some (.val (.int s)), some (.val (tl q is)), none] := by cases q <;> rfl
  have l2 : scL (.var 3) [3] (evTs (cstG cs) (Cl (d + 3)) .nil) (evE (cstG cs) (Cl (d + 3)) (.op .FloorDiv (.bi .int (.cons (.rd 3) .nil)) (.rd 1))) (is.map .int) [] [some (.val (.int b)), some (.val (.int s)), some (.val (tl q is)), none] = .ok (dedI [] (is.map fun i => i / s)) [some (.val (.int b)), some (.val (.int s)), some (.val (tl q is)), none] := by
    refine scL_all rfl is (by omega) (fun a _ => rfl) fun a _ => ?_
    have h5 : 0 < s := by omega
    have h6 : s < 1073741824 := by omega
    simp [qE_int, qE_bl, qE_non, qE_str, qE_cst, qE_rd, qE_rdx, qE_op, qE_neg, qE_cmp, qE_chn, qE_one, qE_and, qE_or, qE_not, qE_ife, qE_tup, qE_lst, qE_ix, qE_sl, qE_bi, qE_isi, qE_isis, qE_call, qE_callk, qE_lenS, qE_srtS, qE_lrng3, qE_rev, qE_lrng, qSe_of, qEs_nil, qEs_cons, qO_no, qO_so, qT_v, qT_one, qT_and, qT_or, qT_not, qTs_nil, qTs_cons, qI_e, qI_rng, qA_nil, qA_cons, qA_io, qS_asg, qS_asgT, qS_par, qS_setx, qS_app, qS_expr, qS_ret, qS_retv, qS_retn, qS_ife, qS_pass, qS_never, qSs_nil, qSs_cons, R.bind, R.of, W.fz, fzs, backO, cmpT, cmpI2, cmpInt, T.tru, opT, opInt, biT, lenT, listT, tupleT, sortedT, minT, maxT, intT, sumT, allT, anyT, ints_map, bls_map, fzs_iv, eqT_int, eqT_ints, hidOk, tgIn, wipeE, backE, isiT, tyT, Ty.sub, ixT, -List.map_map, h5, h6]
  have v2 := ev_sc i1 rfl l2
  have hz : (dedI [] (is.map fun i => i / s)).length < 64 := by
    have := dedI_le (is.map fun i => i / s) []
    rw [List.length_map] at this
    simp only [List.length_nil] at this
    omega
  simp [fd6, ir6, qE_int, qE_bl, qE_non, qE_str, qE_cst, qE_rd, qE_rdx, qE_op, qE_neg, qE_cmp, qE_chn, qE_one, qE_and, qE_or, qE_not, qE_ife, qE_tup, qE_lst, qE_ix, qE_sl, qE_bi, qE_isi, qE_isis, qE_call, qE_callk, qE_lenS, qE_srtS, qE_lrng3, qE_rev, qE_lrng, qSe_of, qEs_nil, qEs_cons, qO_no, qO_so, qT_v, qT_one, qT_and, qT_or, qT_not, qTs_nil, qTs_cons, qI_e, qI_rng, qA_nil, qA_cons, qA_io, qS_asg, qS_asgT, qS_par, qS_setx, qS_app, qS_expr, qS_ret, qS_retv, qS_retn, qS_ife, qS_pass, qS_never, qSs_nil, qSs_cons, R.bind, R.of, W.fz, fzs, backO, cmpT, cmpI2, cmpInt, T.tru, opT, opInt, biT, lenT, listT, tupleT, sortedT, minT, maxT, intT, sumT, allT, anyT, ints_map, bls_map, fzs_iv, eqT_int, eqT_ints, hidOk, tgIn, wipeE, backE, isiT, tyT, Ty.sub, ixT, -List.map_map, g0, a1, a2, a3, v2, hz, regsI]
theorem c7 (d : Nat) (b s r : Int) (hs : 0 < s) (hs' : s ≤ 10000) : Cl (d + 1) 7 [.val (.int b), .val (.int s), .val (.int r)] = .ok (.val (.int (if b - r * s < s then b - r * s else s))) [] := by
  refine call_rt (fd := fd7) (env := [some (.val (.int b)), some (.val (.int s)), some (.val (.int r))]) rfl rfl ?_
  have m1 : mulOk r s = true := by simp only [mulOk, Bool.or_eq_true, Bool.and_eq_true, decide_eq_true_eq]; omega
  simp [fd7, ir7, qE_int, qE_bl, qE_non, qE_str, qE_cst, qE_rd, qE_rdx, qE_op, qE_neg, qE_cmp, qE_chn, qE_one, qE_and, qE_or, qE_not, qE_ife, qE_tup, qE_lst, qE_ix, qE_sl, qE_bi, qE_isi, qE_isis, qE_call, qE_callk, qE_lenS, qE_srtS, qE_lrng3, qE_rev, qE_lrng, qSe_of, qEs_nil, qEs_cons, qO_no, qO_so, qT_v, qT_one, qT_and, qT_or, qT_not, qTs_nil, qTs_cons, qI_e, qI_rng, qA_nil, qA_cons, qA_io, qS_asg, qS_asgT, qS_par, qS_setx, qS_app, qS_expr, qS_ret, qS_retv, qS_retn, qS_ife, qS_pass, qS_never, qSs_nil, qSs_cons, R.bind, R.of, W.fz, fzs, backO, cmpT, cmpI2, cmpInt, T.tru, opT, opInt, biT, lenT, listT, tupleT, sortedT, minT, maxT, intT, sumT, allT, anyT, ints_map, bls_map, fzs_iv, eqT_int, eqT_ints, hidOk, tgIn, wipeE, backE, isiT, tyT, Ty.sub, ixT, -List.map_map, m1]
def copI (b s : Int) (is : List Int) : Int := sumI ((regsI s is).map fun r => if b - r * s < s then b - r * s else s)
theorem c8 (d : Nat) (q : Bool) (b s : Int) (is : List Int) (h1 : 1 ≤ b) (h2 : b ≤ 10000) (h3 : 1 ≤ s) (h4 : s ≤ 10000) (hl : is.length < 64) (hr : ∀ i ∈ is, 0 ≤ i ∧ i ≤ b - 1) (hn : (dedI [] is).length = is.length) :
    Cl (d + 5) 8 [.val (.int b), .val (.int s), .val (tl q is)] = .ok (.val (.int (copI b s is))) [] := by
  refine call_rt (fd := fd8) (env := [some (.val (.int b)), some (.val (.int s)), some (.val (tl q is)), none]) rfl rfl ?_
  have a1 := c6 d q b s is h1 h2 h3 h4 hl hr hn
  have i1 : evI (cstG cs) (Cl (d + 4)) (.e (.call 6 (.cons (.rd 0) (.cons (.rd 1) (.cons (.rd 2) .nil))) [])) [some (.val (.int b)), some (.val (.int s)), some (.val (tl q is)), none] = .ok ((regsI s is).map .int) [some (.val (.int b)), some (.val (.int s)), some (.val (tl q is)), none] := by
    simp [qE_int, qE_bl, qE_non, qE_str, qE_cst, qE_rd, qE_rdx, qE_op, qE_neg, qE_cmp, qE_chn, qE_one, qE_and, qE_or, qE_not, qE_ife, qE_tup, qE_lst, qE_ix, qE_sl, qE_bi, qE_isi, qE_isis, qE_call, qE_callk, qE_lenS, qE_srtS, qE_lrng3, qE_rev, qE_lrng, qSe_of, qEs_nil, qEs_cons, qO_no, qO_so, qT_v, qT_one, qT_and, qT_or, qT_not, qTs_nil, qTs_cons, qI_e, qI_rng, qA_nil, qA_cons, qA_io, qS_asg, qS_asgT, qS_par, qS_setx, qS_app, qS_expr, qS_ret, qS_retv, qS_retn, qS_ife, qS_pass, qS_never, qSs_nil, qSs_cons, R.bind, R.of, W.fz, fzs, backO, cmpT, cmpI2, cmpInt, T.tru, opT, opInt, biT, lenT, listT, tupleT, sortedT, minT, maxT, intT, sumT, allT, anyT, ints_map, bls_map, fzs_iv, eqT_int, eqT_ints, hidOk, tgIn, wipeE, backE, isiT, tyT, Ty.sub, ixT, -List.map_map, a1]
  have l1 : lcL (.var 3) [3] (evTs (cstG cs) (Cl (d + 4)) .nil) (evE (cstG cs) (Cl (d + 4)) (.call 7 (.cons (.rd 0) (.cons (.rd 1) (.cons (.rd 3) .nil))) [])) ((regsI s is).map .int) [] [some (.val (.int b)), some (.val (.int s)), some (.val (tl q is)), none] = .ok ((regsI s is).map fun r => .val (.int (if b - r * s < s then b - r * s else s))) [some (.val (.int b)), some (.val (.int s)), some (.val (tl q is)), none] := by
    refine lcL_all rfl (regsI s is) ?_ (fun a _ => rfl) fun a _ => ?_
    · have h := (sortI_perm (dedI [] (is.map fun i => i / s))).length_eq
      have := dedI_le (is.map fun i => i / s) []
      rw [List.length_map] at this
      simp only [List.length_nil] at this
      show (sortI (dedI [] (is.map fun i => i / s))).length ≤ _
      omega
    · have h := c7 (d + 3) b s a (by omega) h4
      simp [qE_int, qE_bl, qE_non, qE_str, qE_cst, qE_rd, qE_rdx, qE_op, qE_neg, qE_cmp, qE_chn, qE_one, qE_and, qE_or, qE_not, qE_ife, qE_tup, qE_lst, qE_ix, qE_sl, qE_bi, qE_isi, qE_isis, qE_call, qE_callk, qE_lenS, qE_srtS, qE_lrng3, qE_rev, qE_lrng, qSe_of, qEs_nil, qEs_cons, qO_no, qO_so, qT_v, qT_one, qT_and, qT_or, qT_not, qTs_nil, qTs_cons, qI_e, qI_rng, qA_nil, qA_cons, qA_io, qS_asg, qS_asgT, qS_par, qS_setx, qS_app, qS_expr, qS_ret, qS_retv, qS_retn, qS_ife, qS_pass, qS_never, qSs_nil, qSs_cons, R.bind, R.of, W.fz, fzs, backO, cmpT, cmpI2, cmpInt, T.tru, opT, opInt, biT, lenT, listT, tupleT, sortedT, minT, maxT, intT, sumT, allT, anyT, ints_map, bls_map, fzs_iv, eqT_int, eqT_ints, hidOk, tgIn, wipeE, backE, isiT, tyT, Ty.sub, ixT, -List.map_map, h]
  have v1 := ev_lc i1 rfl l1
  have e1 : fzs ((regsI s is).map fun r => W.val (.int (if b - r * s < s then b - r * s else s))) = ((regsI s is).map fun r => if b - r * s < s then b - r * s else s).map .int := by
    rw [fzs_map, List.map_map]
    rfl
  simp [fd8, ir8, qE_int, qE_bl, qE_non, qE_str, qE_cst, qE_rd, qE_rdx, qE_op, qE_neg, qE_cmp, qE_chn, qE_one, qE_and, qE_or, qE_not, qE_ife, qE_tup, qE_lst, qE_ix, qE_sl, qE_bi, qE_isi, qE_isis, qE_call, qE_callk, qE_lenS, qE_srtS, qE_lrng3, qE_rev, qE_lrng, qSe_of, qEs_nil, qEs_cons, qO_no, qO_so, qT_v, qT_one, qT_and, qT_or, qT_not, qTs_nil, qTs_cons, qI_e, qI_rng, qA_nil, qA_cons, qA_io, qS_asg, qS_asgT, qS_par, qS_setx, qS_app, qS_expr, qS_ret, qS_retv, qS_retn, qS_ife, qS_pass, qS_never, qSs_nil, qSs_cons, R.bind, R.of, W.fz, fzs, backO, cmpT, cmpI2, cmpInt, T.tru, opT, opInt, biT, lenT, listT, tupleT, sortedT, minT, maxT, intT, sumT, allT, anyT, ints_map, bls_map, fzs_iv, eqT_int, eqT_ints, hidOk, tgIn, wipeE, backE, isiT, tyT, Ty.sub, ixT, -List.map_map, v1, e1, copI]
theorem c9 (d : Nat) (n s : Int) (hs : 0 < s) (hs' : s ≤ 10000) : Cl (d + 1) 9 [.val (.int n), .val (.int s)] = .ok (.val (.int ((n + s - 1) / s))) [] := by
  refine call_rt (fd := fd9) (env := [some (.val (.int n)), some (.val (.int s))]) rfl rfl ?_
  have h6 : s < 1073741824 := by omega
  simp [fd9, ir9, qE_int, qE_bl, qE_non, qE_str, qE_cst, qE_rd, qE_rdx, qE_op, qE_neg, qE_cmp, qE_chn, qE_one, qE_and, qE_or, qE_not, qE_ife, qE_tup, qE_lst, qE_ix, qE_sl, qE_bi, qE_isi, qE_isis, qE_call, qE_callk, qE_lenS, qE_srtS, qE_lrng3, qE_rev, qE_lrng, qSe_of, qEs_nil, qEs_cons, qO_no, qO_so, qT_v, qT_one, qT_and, qT_or, qT_not, qTs_nil, qTs_cons, qI_e, qI_rng, qA_nil, qA_cons, qA_io, qS_asg, qS_asgT, qS_par, qS_setx, qS_app, qS_expr, qS_ret, qS_retv, qS_retn, qS_ife, qS_pass, qS_never, qSs_nil, qSs_cons, R.bind, R.of, W.fz, fzs, backO, cmpT, cmpI2, cmpInt, T.tru, opT, opInt, biT, lenT, listT, tupleT, sortedT, minT, maxT, intT, sumT, allT, anyT, ints_map, bls_map, fzs_iv, eqT_int, eqT_ints, hidOk, tgIn, wipeE, backE, isiT, tyT, Ty.sub, ixT, -List.map_map, hs, h6]
/-- the bounds of a store -/
structure Sto (b s m : Int) : Prop where
  b1 : 1 ≤ b
  b2 : b ≤ 9
  s1 : 1 ≤ s
  s2 : s ≤ 11
  m1 : 1 ≤ m
  m2 : m ≤ b
theorem c4' (d : Nat) {b s m : Int} (h : Sto b s m) : Cl (d + 4) 4 [.val (.int b), .val (.int s), .val (.int m)] = .ok (.val .non) [] := c4 d b s m h.b1 (by have := h.b2; omega) h.s1 (by have := h.s2; omega) h.m1 h.m2
theorem c10 (d : Nat) {b s m : Int} (h : Sto b s m) : Cl (d + 5) 10 [.val (.int b), .val (.int s), .val (.int m)] = .ok (.val (.int ((m + s - 1) / s))) [] := by
  refine call_rt (fd := fd10) (env := [some (.val (.int b)), some (.val (.int s)), some (.val (.int m))]) rfl rfl ?_
  have a1 := c4' d h
  have a2 := c9 (d + 3) m s (by have := h.s1; omega) (by have := h.s2; omega)
  simp [fd10, ir10, qE_int, qE_bl, qE_non, qE_str, qE_cst, qE_rd, qE_rdx, qE_op, qE_neg, qE_cmp, qE_chn, qE_one, qE_and, qE_or, qE_not, qE_ife, qE_tup, qE_lst, qE_ix, qE_sl, qE_bi, qE_isi, qE_isis, qE_call, qE_callk, qE_lenS, qE_srtS, qE_lrng3, qE_rev, qE_lrng, qSe_of, qEs_nil, qEs_cons, qO_no, qO_so, qT_v, qT_one, qT_and, qT_or, qT_not, qTs_nil, qTs_cons, qI_e, qI_rng, qA_nil, qA_cons, qA_io, qS_asg, qS_asgT, qS_par, qS_setx, qS_app, qS_expr, qS_ret, qS_retv, qS_retn, qS_ife, qS_pass, qS_never, qSs_nil, qSs_cons, R.bind, R.of, W.fz, fzs, backO, cmpT, cmpI2, cmpInt, T.tru, opT, opInt, biT, lenT, listT, tupleT, sortedT, minT, maxT, intT, sumT, allT, anyT, ints_map, bls_map, fzs_iv, eqT_int, eqT_ints, hidOk, tgIn, wipeE, backE, isiT, tyT, Ty.sub, ixT, -List.map_map, a1, a2]
theorem c11 (d : Nat) {b s m : Int} (h : Sto b s m) : Cl (d + 5) 11 [.val (.int b), .val (.int s), .val (.int m)] = .ok (.val (.int (if (b + s - 1) / s < m then (b + s - 1) / s else m))) [] := by
  refine call_rt (fd := fd11) (env := [some (.val (.int b)), some (.val (.int s)), some (.val (.int m))]) rfl rfl ?_
  have a1 := c4' d h
  have a2 := c9 (d + 3) b s (by have := h.s1; omega) (by have := h.s2; omega)
  simp [fd11, ir11, qE_int, qE_bl, qE_non, qE_str, qE_cst, qE_rd, qE_rdx, qE_op, qE_neg, qE_cmp, qE_chn, qE_one, qE_and, qE_or, qE_not, qE_ife, qE_tup, qE_lst, qE_ix, qE_sl, qE_bi, qE_isi, qE_isis, qE_call, qE_callk, qE_lenS, qE_srtS, qE_lrng3, qE_rev, qE_lrng, qSe_of, qEs_nil, qEs_cons, qO_no, qO_so, qT_v, qT_one, qT_and, qT_or, qT_not, qTs_nil, qTs_cons, qI_e, qI_rng, qA_nil, qA_cons, qA_io, qS_asg, qS_asgT, qS_par, qS_setx, qS_app, qS_expr, qS_ret, qS_retv, qS_retn, qS_ife, qS_pass, qS_never, qSs_nil, qSs_cons, R.bind, R.of, W.fz, fzs, backO, cmpT, cmpI2, cmpInt, T.tru, opT, opInt, biT, lenT, listT, tupleT, sortedT, minT, maxT, intT, sumT, allT, anyT, ints_map, bls_map, fzs_iv, eqT_int, eqT_ints, hidOk, tgIn, wipeE, backE, isiT, tyT, Ty.sub, ixT, -List.map_map, a1, a2]
theorem c13 (d : Nat) {b s m : Int} (h : Sto b s m) : Cl (d + 5) 13 [.val (.int b), .val (.int s), .val (.int m)] = .ok (.val (.int (if b < m * s then b else m * s))) [] := by
  refine call_rt (fd := fd13) (env := [some (.val (.int b)), some (.val (.int s)), some (.val (.int m))]) rfl rfl ?_
  have a1 := c4' d h
  have m1 : mulOk m s = true := by
    have := h.s1
    have := h.s2
    simp only [mulOk, Bool.or_eq_true, Bool.and_eq_true, decide_eq_true_eq]; omega
  simp [fd13, ir13, qE_int, qE_bl, qE_non, qE_str, qE_cst, qE_rd, qE_rdx, qE_op, qE_neg, qE_cmp, qE_chn, qE_one, qE_and, qE_or, qE_not, qE_ife, qE_tup, qE_lst, qE_ix, qE_sl, qE_bi, qE_isi, qE_isis, qE_call, qE_callk, qE_lenS, qE_srtS, qE_lrng3, qE_rev, qE_lrng, qSe_of, qEs_nil, qEs_cons, qO_no, qO_so, qT_v, qT_one, qT_and, qT_or, qT_not, qTs_nil, qTs_cons, qI_e, qI_rng, qA_nil, qA_cons, qA_io, qS_asg, qS_asgT, qS_par, qS_setx, qS_app, qS_expr, qS_ret, qS_retv, qS_retn, qS_ife, qS_pass, qS_never, qSs_nil, qSs_cons, R.bind, R.of, W.fz, fzs, backO, cmpT, cmpI2, cmpInt, T.tru, opT, opInt, biT, lenT, listT, tupleT, sortedT, minT, maxT, intT, sumT, allT, anyT, ints_map, bls_map, fzs_iv, eqT_int, eqT_ints, hidOk, tgIn, wipeE, backE, isiT, tyT, Ty.sub, ixT, -List.map_map, a1, m1]
theorem c16 (d : Nat) (ns : List Int) (k : Int) (hk : 0 ≤ k) (hk' : k ≤ 1000) : ∃ p0 p1, PoolOk p1 ∧ Cl (d + 1) 16 [.val (.scr ns), .val (.int k)] = .ok (PoolW p0 p1) [] := by
  obtain ⟨p0, p1, env, h1, h2⟩ := pool_ev (cstG cs) (Cl d) ns k hk hk'
  exact ⟨p0, p1, h1, call_rt (fd := fd16) rfl rfl h2⟩
theorem c17 (d : Nat) (p0 p1 m : Int) (h : PoolOk p1) (hm : 0 < m) (hm' : m < 1073741824) : ∃ r q0 q1, 0 ≤ r ∧ r < m ∧ PoolOk q1 ∧ Cl (d + 1) 17 [PoolW p0 p1, .val (.int m)] = .ok (.val (.int r)) [some (PoolW q0 q1)] := by
  obtain ⟨r, q0, q1, h1, h2, h3, h4⟩ := take_ev (cstG cs) (Cl d) p0 p1 m h hm hm'
  exact ⟨r, q0, q1, h1, h2, h3, call_rt (fd := fd17) (env := [some (PoolW q0 q1), some (.val (.int m)), none]) rfl rfl h4⟩
theorem regs_len (s : Int) (is : List Int) : (regsI s is).length ≤ is.length := by
  have h := (sortI_perm (dedI [] (is.map fun i => i / s))).length_eq
  have := dedI_le (is.map fun i => i / s) []
  rw [List.length_map] at this
  simp only [List.length_nil] at this
  show (sortI (dedI [] (is.map fun i => i / s))).length ≤ _
  omega
/-- sorted(set([block // size for block in row])) -/
theorem rg (C : Calls) (s : Int) (is : List Int) (hs : 0 < s) (hs' : s ≤ 10000) (hl : is.length < 64) (env : Ev.Env) (i j k : Nat) (hi : env[i]? = some none) (hj : env[j]? = some (some (.val (.lst (is.map .int))))) (hk : env[k]? = some (some (.val (.int s)))) (hij : i ≠ j) (hik : i ≠ k) :
    evSe (cstG cs) C (.of (.lc [i] (.var i) (.e (.rd j)) .nil (.op .FloorDiv (.rd i) (.rd k)))) env = .ok (dedI [] (is.map fun x => x / s)) env := by
  have lt : i < env.length := (List.getElem?_eq_some_iff.mp hi).1
  have i1 : evI (cstG cs) C (.e (.rd j)) env = .ok (is.map .int) env := by
    rw [qI_e, ev_rd hj]
    rfl
  have hw : wipeE env [i] = env := set_same hi
  have l1 : lcL (.var i) [i] (evTs (cstG cs) C .nil) (evE (cstG cs) C (.op .FloorDiv (.rd i) (.rd k))) (is.map .int) [] (wipeE env [i]) = .ok (is.map fun x => .val (.int (x / s))) env := by
    rw [hw]
    refine lcL_all hi is (by omega) (fun a _ => rfl) fun a _ => ?_
    have e1 : (env.set i (some (.val (.int a))))[i]? = some (some (.val (.int a))) := List.getElem?_set_self lt
    have e2 : (env.set i (some (.val (.int a))))[k]? = some (some (.val (.int s))) := by rw [List.getElem?_set_ne hik]; exact hk
    have h6 : s < 1073741824 := by omega
    rw [qE_op, ev_rd e1]
    simp [R.bind, ev_rd e2, W.fz, opT, opInt, hs, h6, R.of]
  have hid : (hidOk env [i] && tgIn (.var i) [i]) = true := by simp [hidOk, tgIn, hi]
  have v1 := ev_lc i1 hid l1
  have hb : backE env env [i] = env := by
    show env.set i ((env[i]?).getD none) = env
    rw [hi]
    exact set_same hi
  rw [hb] at v1
  rw [qSe_of, v1]
  have e1 : fzs (is.map fun x => W.val (.int (x / s))) = (is.map fun x => x / s).map .int := by
    rw [fzs_map, List.map_map]
    rfl
  have hz : (is.map fun x => x / s).length < 4095 := by rw [List.length_map]; omega
  show (match T.ints (fzs (is.map fun x => W.val (.int (x / s)))) with | some is => (if decide (is.length < 4095) = true then R.ok (dedI [] is) env else .no) | none => .no) = _
  rw [e1, ints_map]
  show (if decide ((is.map fun x => x / s).length < 4095) = true then R.ok (dedI [] (is.map fun x => x / s)) env else .no) = _
  rw [if_pos (decide_eq_true hz)]
theorem c19 (d : Nat) (b s : Int) (is : List Int) (h3 : 1 ≤ s) (h4 : s ≤ 10000) (hl : is.length < 64) : Cl (d + 1) 19 [.val (.int b), .val (.int s), .val (.lst (is.map .int))] = .ok (.val (.int (copI b s is))) [] := by
  have hz : (dedI [] (is.map fun i => i / s)).length < 64 := by
    have := dedI_le (is.map fun i => i / s) []
    rw [List.length_map] at this
    simp only [List.length_nil] at this
    omega
  refine call_rt (fd := fd19) (env := [some (.val (.int b)), some (.val (.int s)), some (.val (.lst (is.map .int))), some (.val (.lst ((regsI s is).map .int))), none, none]) rfl rfl ?_
  have v0 := rg (Cl d) s is (by omega) h4 hl [some (.val (.int b)), some (.val (.int s)), some (.val (.lst (is.map .int))), none, none, none] 5 2 1 rfl rfl rfl (by decide) (by decide)
  have i1 : evI (cstG cs) (Cl d) (.e (.rd 3)) [some (.val (.int b)), some (.val (.int s)), some (.val (.lst (is.map .int))), some (.lst ((regsI s is).map fun i => .val (.int i))), none, none] = .ok ((regsI s is).map .int) [some (.val (.int b)), some (.val (.int s)), some (.val (.lst (is.map .int))), some (.val (.lst ((regsI s is).map .int))), none, none] := by
    simp [qE_int, qE_bl, qE_non, qE_str, qE_cst, qE_rd, qE_rdx, qE_op, qE_neg, qE_cmp, qE_chn, qE_one, qE_and, qE_or, qE_not, qE_ife, qE_tup, qE_lst, qE_ix, qE_sl, qE_bi, qE_isi, qE_isis, qE_call, qE_callk, qE_lenS, qE_srtS, qE_lrng3, qE_rev, qE_lrng, qSe_of, qEs_nil, qEs_cons, qO_no, qO_so, qT_v, qT_one, qT_and, qT_or, qT_not, qTs_nil, qTs_cons, qI_e, qI_rng, qA_nil, qA_cons, qA_io, qS_asg, qS_asgT, qS_par, qS_setx, qS_app, qS_expr, qS_ret, qS_retv, qS_retn, qS_ife, qS_pass, qS_never, qSs_nil, qSs_cons, R.bind, R.of, W.fz, fzs, backO, cmpT, cmpI2, cmpInt, T.tru, opT, opInt, biT, lenT, listT, tupleT, sortedT, minT, maxT, intT, sumT, allT, anyT, ints_map, bls_map, fzs_iv, eqT_int, eqT_ints, hidOk, tgIn, wipeE, backE, isiT, tyT, Ty.sub, ixT, -List.map_map]
  have l1 : lcL (.var 4) [4] (evTs (cstG cs) (Cl d) .nil) (evE (cstG cs) (Cl d) (.bi .min (.cons (.rd 1) (.cons (.op .Sub (.rd 0) (.op .Mult (.rd 4) (.rd 1))) .nil)))) ((regsI s is).map .int) [] [some (.val (.int b)), some (.val (.int s)), some (.val (.lst (is.map .int))), some (.val (.lst ((regsI s is).map .int))), none, none] = .ok ((regsI s is).map fun r => .val (.int (if b - r * s < s then b - r * s else s))) [some (.val (.int b)), some (.val (.int s)), some (.val (.lst (is.map .int))), some (.val (.lst ((regsI s is).map .int))), none, none] := by
    refine lcL_all rfl (regsI s is) ?_ (fun a _ => rfl) fun a _ => ?_
    · have := regs_len s is
      omega
    · have m1 : mulOk a s = true := by simp only [mulOk, Bool.or_eq_true, Bool.and_eq_true, decide_eq_true_eq]; omega
      simp [qE_int, qE_bl, qE_non, qE_str, qE_cst, qE_rd, qE_rdx, qE_op, qE_neg, qE_cmp, qE_chn, qE_one, qE_and, qE_or, qE_not, qE_ife, qE_tup, qE_lst, qE_ix, qE_sl, qE_bi, qE_isi, qE_isis, qE_call, qE_callk, qE_lenS, qE_srtS, qE_lrng3, qE_rev, qE_lrng, qSe_of, qEs_nil, qEs_cons, qO_no, qO_so, qT_v, qT_one, qT_and, qT_or, qT_not, qTs_nil, qTs_cons, qI_e, qI_rng, qA_nil, qA_cons, qA_io, qS_asg, qS_asgT, qS_par, qS_setx, qS_app, qS_expr, qS_ret, qS_retv, qS_retn, qS_ife, qS_pass, qS_never, qSs_nil, qSs_cons, R.bind, R.of, W.fz, fzs, backO, cmpT, cmpI2, cmpInt, T.tru, opT, opInt, biT, lenT, listT, tupleT, sortedT, minT, maxT, intT, sumT, allT, anyT, ints_map, bls_map, fzs_iv, eqT_int, eqT_ints, hidOk, tgIn, wipeE, backE, isiT, tyT, Ty.sub, ixT, -List.map_map, m1]
  have v1 := ev_lc i1 rfl l1
  have e1 : fzs ((regsI s is).map fun r => W.val (.int (if b - r * s < s then b - r * s else s))) = ((regsI s is).map fun r => if b - r * s < s then b - r * s else s).map .int := by
    rw [fzs_map, List.map_map]
    rfl
  have er : sortI (dedI [] (is.map fun i => i / s)) = regsI s is := rfl
  simp [fd19, ir19, qE_int, qE_bl, qE_non, qE_str, qE_cst, qE_rd, qE_rdx, qE_op, qE_neg, qE_cmp, qE_chn, qE_one, qE_and, qE_or, qE_not, qE_ife, qE_tup, qE_lst, qE_ix, qE_sl, qE_bi, qE_isi, qE_isis, qE_call, qE_callk, qE_lenS, qE_srtS, qE_lrng3, qE_rev, qE_lrng, qSe_of, qEs_nil, qEs_cons, qO_no, qO_so, qT_v, qT_one, qT_and, qT_or, qT_not, qTs_nil, qTs_cons, qI_e, qI_rng, qA_nil, qA_cons, qA_io, qS_asg, qS_asgT, qS_par, qS_setx, qS_app, qS_expr, qS_ret, qS_retv, qS_retn, qS_ife, qS_pass, qS_never, qSs_nil, qSs_cons, R.bind, R.of, W.fz, fzs, backO, cmpT, cmpI2, cmpInt, T.tru, opT, opInt, biT, lenT, listT, tupleT, sortedT, minT, maxT, intT, sumT, allT, anyT, ints_map, bls_map, fzs_iv, eqT_int, eqT_ints, hidOk, tgIn, wipeE, backE, isiT, tyT, Ty.sub, ixT, -List.map_map, v0, hz, er, v1, e1, copI]
end Zk69
set_option maxHeartbeats 4000000
namespace Zk69
open PySem Ev
/-! ### all sets -/
def rowT (r : List Int) : T := .lst (r.map .int)
def growI (m k : Int) (rows : List (List Int)) : List (List Int) := rows ++ (rows.filter fun r => decide ((r.length : Int) < m)).map fun r => r ++ [k]
def setsF (m : Int) : List Int → List (List Int) → List (List Int)
  | [], rows => rows
  | k :: ks, rows => setsF m ks (growI m k rows)
def setsI (b m : Int) : List (List Int) := (setsF m (rngI 0 b.toNat) [[]]).filter fun r => decide ((r.length : Int) = m)
theorem grow_len (m k : Int) (rows : List (List Int)) : (growI m k rows).length ≤ 2 * rows.length := by
  unfold growI
  rw [List.length_append, List.length_map]
  have := List.length_filter_le (fun r : List Int => decide ((r.length : Int) < m)) rows
  omega
theorem grow_row (m k : Int) (rows : List (List Int)) (n : Nat) (h : ∀ r ∈ rows, r.length ≤ n) : ∀ r ∈ growI m k rows, r.length ≤ n + 1 := fun r hr => by
  rcases List.mem_append.mp hr with z | z
  · have := h r z
    omega
  · obtain ⟨q, hq, rfl⟩ := List.mem_map.mp z
    have := h q (List.mem_filter.mp hq).1
    rw [List.length_append, List.length_singleton]
    omega
def body18 : Ss := (.cons (.asg 2 (.op .Add (.rd 2) (.lc [4] (.var 4) (.e (.rd 2)) (.cons (.v (.cmp .Lt (.bi .len (.cons (.rd 4) .nil)) (.rd 1))) .nil) (.op .Add (.rd 4) (.lst (.cons (.rd 3) .nil)))))) .nil)
theorem grow_ev (C : Calls) (b m k : Int) (w : W) (rows : List (List Int)) (hw : w.fz = .lst (rows.map rowT)) (hl : rows.length ≤ 4096) (hr : ∀ r ∈ rows, r.length ≤ 100) :
    evSs (cstG cs) C body18 [some (.val (.int b)), some (.val (.int m)), some w, some (.val (.int k)), none] =
      .ok .nx [some (.val (.int b)), some (.val (.int m)), some (.lst ((growI m k rows).map fun r => .val (rowT r))), some (.val (.int k)), none] := by
  have i1 : evI (cstG cs) C (.e (.rd 2)) [some (.val (.int b)), some (.val (.int m)), some (.val (.lst (rows.map rowT))), some (.val (.int k)), none] = .ok (rows.map rowT) [some (.val (.int b)), some (.val (.int m)), some (.val (.lst (rows.map rowT))), some (.val (.int k)), none] := by
    simp [qE_int, qE_bl, qE_non, qE_str, qE_cst, qE_rd, qE_rdx, qE_op, qE_neg, qE_cmp, qE_chn, qE_one, qE_and, qE_or, qE_not, qE_ife, qE_tup, qE_lst, qE_ix, qE_sl, qE_bi, qE_isi, qE_isis, qE_call, qE_callk, qE_lenS, qE_srtS, qE_lrng3, qE_rev, qE_lrng, qSe_of, qEs_nil, qEs_cons, qO_no, qO_so, qT_v, qT_one, qT_and, qT_or, qT_not, qTs_nil, qTs_cons, qI_e, qI_rng, qA_nil, qA_cons, qA_io, qS_asg, qS_asgT, qS_par, qS_setx, qS_app, qS_expr, qS_ret, qS_retv, qS_retn, qS_ife, qS_pass, qS_never, qSs_nil, qSs_cons, R.bind, R.of, W.fz, fzs, backO, cmpT, cmpI2, cmpInt, T.tru, opT, opInt, biT, lenT, listT, tupleT, sortedT, minT, maxT, intT, sumT, allT, anyT, ints_map, bls_map, fzs_iv, eqT_int, eqT_ints, hidOk, tgIn, wipeE, backE, isiT, tyT, Ty.sub, ixT, -List.map_map]
  have l1 : lcL (.var 4) [4] (evTs (cstG cs) C (.cons (.v (.cmp .Lt (.bi .len (.cons (.rd 4) .nil)) (.rd 1))) .nil)) (evE (cstG cs) C (.op .Add (.rd 4) (.lst (.cons (.rd 3) .nil)))) (rows.map rowT) [] [some (.val (.int b)), some (.val (.int m)), some (.val (.lst (rows.map rowT))), some (.val (.int k)), none] =
      .ok ((rows.filter fun r => decide ((r.length : Int) < m)).map fun r => .lst ((r.map T.int ++ [T.int k]).map W.val)) [some (.val (.int b)), some (.val (.int m)), some (.val (.lst (rows.map rowT))), some (.val (.int k)), none] := by
    have := lcL_eq (e := rowT) (p := fun r : List Int => decide ((r.length : Int) < m)) (f := fun r : List Int => W.lst ((r.map T.int ++ [T.int k]).map W.val)) (i := 4) (test := evTs (cstG cs) C (.cons (.v (.cmp .Lt (.bi .len (.cons (.rd 4) .nil)) (.rd 1))) .nil)) (elt := evE (cstG cs) C (.op .Add (.rd 4) (.lst (.cons (.rd 3) .nil)))) (env := [some (.val (.int b)), some (.val (.int m)), some (.val (.lst (rows.map rowT))), some (.val (.int k)), none]) rfl rows [] (by simp; omega) fun r hr' => ⟨?_, fun hp => ?_⟩
    · exact this
    · by_cases c : (r.length : Int) < m <;> simp [qE_int, qE_bl, qE_non, qE_str, qE_cst, qE_rd, qE_rdx, qE_op, qE_neg, qE_cmp, qE_chn, qE_one, qE_and, qE_or, qE_not, qE_ife, qE_tup, qE_lst, qE_ix, qE_sl, qE_bi, qE_isi, qE_isis, qE_call, qE_callk, qE_lenS, qE_srtS, qE_lrng3, qE_rev, qE_lrng, qSe_of, qEs_nil, qEs_cons, qO_no, qO_so, qT_v, qT_one, qT_and, qT_or, qT_not, qTs_nil, qTs_cons, qI_e, qI_rng, qA_nil, qA_cons, qA_io, qS_asg, qS_asgT, qS_par, qS_setx, qS_app, qS_expr, qS_ret, qS_retv, qS_retn, qS_ife, qS_pass, qS_never, qSs_nil, qSs_cons, R.bind, R.of, W.fz, fzs, backO, cmpT, cmpI2, cmpInt, T.tru, opT, opInt, biT, lenT, listT, tupleT, sortedT, minT, maxT, intT, sumT, allT, anyT, ints_map, bls_map, fzs_iv, eqT_int, eqT_ints, hidOk, tgIn, wipeE, backE, isiT, tyT, Ty.sub, ixT, -List.map_map, rowT, c]
    · have := hr r hr'
      have h2 : r.length + 1 ≤ 16777216 := by omega
      simp [qE_int, qE_bl, qE_non, qE_str, qE_cst, qE_rd, qE_rdx, qE_op, qE_neg, qE_cmp, qE_chn, qE_one, qE_and, qE_or, qE_not, qE_ife, qE_tup, qE_lst, qE_ix, qE_sl, qE_bi, qE_isi, qE_isis, qE_call, qE_callk, qE_lenS, qE_srtS, qE_lrng3, qE_rev, qE_lrng, qSe_of, qEs_nil, qEs_cons, qO_no, qO_so, qT_v, qT_one, qT_and, qT_or, qT_not, qTs_nil, qTs_cons, qI_e, qI_rng, qA_nil, qA_cons, qA_io, qS_asg, qS_asgT, qS_par, qS_setx, qS_app, qS_expr, qS_ret, qS_retv, qS_retn, qS_ife, qS_pass, qS_never, qSs_nil, qSs_cons, R.bind, R.of, W.fz, fzs, backO, cmpT, cmpI2, cmpInt, T.tru, opT, opInt, biT, lenT, listT, tupleT, sortedT, minT, maxT, intT, sumT, allT, anyT, ints_map, bls_map, fzs_iv, eqT_int, eqT_ints, hidOk, tgIn, wipeE, backE, isiT, tyT, Ty.sub, ixT, -List.map_map, rowT, h2]
  have v1 := ev_lc i1 rfl l1
  have e1 : fzs ((rows.filter fun r => decide ((r.length : Int) < m)).map fun r => W.lst ((r.map T.int ++ [T.int k]).map W.val)) = ((rows.filter fun r => decide ((r.length : Int) < m)).map fun r => r ++ [k]).map rowT := by
    rw [fzs_map, List.map_map]
    refine List.map_congr_left fun r _ => ?_
    show T.lst (fzs ((r.map T.int ++ [T.int k]).map W.val)) = T.lst ((r ++ [k]).map .int)
    rw [fzs_map]
    show T.lst ((r.map T.int ++ [T.int k]).map fun t => t) = _
    rw [List.map_id', List.map_append]
    rfl
  have hg := grow_len m k rows
  have h3 : (rows.map rowT).length + (((rows.filter fun r => decide ((r.length : Int) < m)).map fun r => r ++ [k]).map rowT).length ≤ 16777216 := by
    rw [List.length_map, List.length_map, List.length_map]
    have := List.length_filter_le (fun r : List Int => decide ((r.length : Int) < m)) rows
    omega
  have e2 : (rows.map rowT ++ ((rows.filter fun r => decide ((r.length : Int) < m)).map fun r => r ++ [k]).map rowT).map W.val = (growI m k rows).map fun r => W.val (rowT r) := by
    unfold growI
    rw [← List.map_append, List.map_map]
    rfl
  have o1 : opT .Add (.lst (rows.map rowT)) (.lst (((rows.filter fun r => decide ((r.length : Int) < m)).map fun r => r ++ [k]).map rowT)) = some (.lst ((growI m k rows).map fun r => W.val (rowT r))) := by
    show (if decide ((rows.map rowT).length + (((rows.filter fun r => decide ((r.length : Int) < m)).map fun r => r ++ [k]).map rowT).length ≤ 16777216) = true then some (W.lst ((rows.map rowT ++ ((rows.filter fun r => decide ((r.length : Int) < m)).map fun r => r ++ [k]).map rowT).map W.val)) else none) = _
    rw [if_pos (decide_eq_true h3), e2]
  generalize ((rows.filter fun r => decide ((r.length : Int) < m)).map fun r => W.lst ((r.map T.int ++ [T.int k]).map W.val)) = ws at v1 e1
  unfold body18
  rw [qSs_cons, qS_asg, qE_op, qE_rd]
  simp [R.bind, R.of, hw, W.fz, v1, backE, e1, o1, qSs_nil, -List.map_map]
theorem sets_loop (C : Calls) (b m : Int) : ∀ (ks : List Int) (w : W) (rows : List (List Int)) (x : Option W) (n : Nat), w.fz = .lst (rows.map rowT) → rows.length * 2 ^ ks.length ≤ 4096 → (∀ r ∈ rows, r.length ≤ n) → n + ks.length ≤ 100 →
    ∃ w' x', w'.fz = .lst ((setsF m ks rows).map rowT) ∧ (∀ r ∈ setsF m ks rows, r.length ≤ n + ks.length) ∧ (setsF m ks rows).length ≤ 4096 ∧
      forL (.var 3) (evSs (cstG cs) C body18) (ks.map .int) [some (.val (.int b)), some (.val (.int m)), some w, x, none] = .ok .nx [some (.val (.int b)), some (.val (.int m)), some w', x', none]
  | [], w, rows, x, n, hw, hl, hr, hn => ⟨w, x, hw, fun r h => hr r h, (by have h : rows.length * 1 ≤ 4096 := hl; show rows.length ≤ 4096; omega), rfl⟩
  | k :: ks, w, rows, x, n, hw, hl, hr, hn => by
    have p2 : 2 ^ (k :: ks).length = 2 * 2 ^ ks.length := by rw [List.length_cons, Nat.pow_succ]; omega
    have pp : 1 ≤ 2 ^ ks.length := Nat.one_le_two_pow
    rw [p2] at hl
    rw [List.length_cons] at hn
    have h1 : rows.length ≤ 4096 := by
      have : rows.length * 1 ≤ rows.length * (2 * 2 ^ ks.length) := Nat.mul_le_mul_left _ (by omega)
      omega
    have gl := grow_len m k rows
    have h2 : (growI m k rows).length * 2 ^ ks.length ≤ 4096 := by
      have : (growI m k rows).length * 2 ^ ks.length ≤ (2 * rows.length) * 2 ^ ks.length := Nat.mul_le_mul_right _ gl
      have e : (2 * rows.length) * 2 ^ ks.length = rows.length * (2 * 2 ^ ks.length) := by rw [Nat.mul_comm 2 rows.length, Nat.mul_assoc]
      omega
    have hw2 : (W.lst ((growI m k rows).map fun r => .val (rowT r))).fz = .lst ((growI m k rows).map rowT) := by
      show T.lst (fzs _) = _
      rw [fzs_map]
      rfl
    obtain ⟨w', x', a1, a2, a3, a4⟩ := sets_loop C b m ks _ (growI m k rows) (some (.val (.int k))) (n + 1) hw2 h2 (grow_row m k rows n hr) (by omega)
    refine ⟨w', x', a1, fun r h => by have := a2 r h; rw [List.length_cons]; omega, a3, ?_⟩
    have ev := grow_ev C b m k w rows hw h1 fun r h => by have := hr r h; omega
    show ((evSs (cstG cs) C body18 [some (.val (.int b)), some (.val (.int m)), some w, some (.val (.int k)), none]).bind _) = _
    rw [ev]
    exact a4
theorem c18 (d : Nat) (b m : Int) (hb : 0 ≤ b) (hb' : b ≤ 9) : ∃ w, Cl (d + 1) 18 [.val (.int b), .val (.int m)] = .ok w [] ∧ w.fz = .lst ((setsI b m).map rowT) := by
  obtain ⟨w', x', a1, a2, a3, a4⟩ := sets_loop (Cl d) b m (rngI 0 b.toNat) (.lst [.lst []]) [[]] none 0 rfl (by
    rw [rngI_len]
    have : b.toNat ≤ 9 := by omega
    have : 2 ^ b.toNat ≤ 2 ^ 9 := Nat.pow_le_pow_right (by decide) this
    simp only [List.length_singleton]
    omega) (by simp) (by rw [rngI_len]; omega)
  refine ⟨.lst ((setsI b m).map fun r => .val (rowT r)), call_rt (fd := fd18) (env := [some (.val (.int b)), some (.val (.int m)), some (.val (.lst ((setsF m (rngI 0 b.toNat) [[]]).map rowT))), x', none]) rfl rfl ?_, ?_⟩
  · have ok : okR b = true := by simp only [okR, Bool.and_eq_true, decide_eq_true_eq]; omega
    have i0 : evI (cstG cs) (Cl d) (.rng (.rd 0) .no) [some (.val (.int b)), some (.val (.int m)), some (.lst [.lst []]), none, none] = .ok ((rngI 0 b.toNat).map .int) [some (.val (.int b)), some (.val (.int m)), some (.lst [.lst []]), none, none] := by
      simp [qE_int, qE_bl, qE_non, qE_str, qE_cst, qE_rd, qE_rdx, qE_op, qE_neg, qE_cmp, qE_chn, qE_one, qE_and, qE_or, qE_not, qE_ife, qE_tup, qE_lst, qE_ix, qE_sl, qE_bi, qE_isi, qE_isis, qE_call, qE_callk, qE_lenS, qE_srtS, qE_lrng3, qE_rev, qE_lrng, qSe_of, qEs_nil, qEs_cons, qO_no, qO_so, qT_v, qT_one, qT_and, qT_or, qT_not, qTs_nil, qTs_cons, qI_e, qI_rng, qA_nil, qA_cons, qA_io, qS_asg, qS_asgT, qS_par, qS_setx, qS_app, qS_expr, qS_ret, qS_retv, qS_retn, qS_ife, qS_pass, qS_never, qSs_nil, qSs_cons, R.bind, R.of, W.fz, fzs, backO, cmpT, cmpI2, cmpInt, T.tru, opT, opInt, biT, lenT, listT, tupleT, sortedT, minT, maxT, intT, sumT, allT, anyT, ints_map, bls_map, fzs_iv, eqT_int, eqT_ints, hidOk, tgIn, wipeE, backE, isiT, tyT, Ty.sub, ixT, -List.map_map, rngT, ok]
    have f0 := ev_for i0 a4
    have i1 : evI (cstG cs) (Cl d) (.e (.rd 2)) [some (.val (.int b)), some (.val (.int m)), some w', x', none] = .ok ((setsF m (rngI 0 b.toNat) [[]]).map rowT) [some (.val (.int b)), some (.val (.int m)), some (.val (.lst ((setsF m (rngI 0 b.toNat) [[]]).map rowT))), x', none] := by
      simp [qE_int, qE_bl, qE_non, qE_str, qE_cst, qE_rd, qE_rdx, qE_op, qE_neg, qE_cmp, qE_chn, qE_one, qE_and, qE_or, qE_not, qE_ife, qE_tup, qE_lst, qE_ix, qE_sl, qE_bi, qE_isi, qE_isis, qE_call, qE_callk, qE_lenS, qE_srtS, qE_lrng3, qE_rev, qE_lrng, qSe_of, qEs_nil, qEs_cons, qO_no, qO_so, qT_v, qT_one, qT_and, qT_or, qT_not, qTs_nil, qTs_cons, qI_e, qI_rng, qA_nil, qA_cons, qA_io, qS_asg, qS_asgT, qS_par, qS_setx, qS_app, qS_expr, qS_ret, qS_retv, qS_retn, qS_ife, qS_pass, qS_never, qSs_nil, qSs_cons, R.bind, R.of, W.fz, fzs, backO, cmpT, cmpI2, cmpInt, T.tru, opT, opInt, biT, lenT, listT, tupleT, sortedT, minT, maxT, intT, sumT, allT, anyT, ints_map, bls_map, fzs_iv, eqT_int, eqT_ints, hidOk, tgIn, wipeE, backE, isiT, tyT, Ty.sub, ixT, -List.map_map, a1]
    have l1 : lcL (.var 4) [4] (evTs (cstG cs) (Cl d) (.cons (.v (.cmp .Eq (.bi .len (.cons (.rd 4) .nil)) (.rd 1))) .nil)) (evE (cstG cs) (Cl d) (.rd 4)) ((setsF m (rngI 0 b.toNat) [[]]).map rowT) [] [some (.val (.int b)), some (.val (.int m)), some (.val (.lst ((setsF m (rngI 0 b.toNat) [[]]).map rowT))), x', none] =
        .ok ((setsI b m).map fun r => .val (rowT r)) [some (.val (.int b)), some (.val (.int m)), some (.val (.lst ((setsF m (rngI 0 b.toNat) [[]]).map rowT))), x', none] := by
      have := lcL_eq (e := rowT) (p := fun r : List Int => decide ((r.length : Int) = m)) (f := fun r : List Int => W.val (rowT r)) (i := 4) (test := evTs (cstG cs) (Cl d) (.cons (.v (.cmp .Eq (.bi .len (.cons (.rd 4) .nil)) (.rd 1))) .nil)) (elt := evE (cstG cs) (Cl d) (.rd 4)) (env := [some (.val (.int b)), some (.val (.int m)), some (.val (.lst ((setsF m (rngI 0 b.toNat) [[]]).map rowT))), x', none]) rfl (setsF m (rngI 0 b.toNat) [[]]) [] (by simp; omega) fun r hr' => ⟨?_, fun hp => ?_⟩
      · exact this
      · by_cases c : (r.length : Int) = m <;> simp [qE_int, qE_bl, qE_non, qE_str, qE_cst, qE_rd, qE_rdx, qE_op, qE_neg, qE_cmp, qE_chn, qE_one, qE_and, qE_or, qE_not, qE_ife, qE_tup, qE_lst, qE_ix, qE_sl, qE_bi, qE_isi, qE_isis, qE_call, qE_callk, qE_lenS, qE_srtS, qE_lrng3, qE_rev, qE_lrng, qSe_of, qEs_nil, qEs_cons, qO_no, qO_so, qT_v, qT_one, qT_and, qT_or, qT_not, qTs_nil, qTs_cons, qI_e, qI_rng, qA_nil, qA_cons, qA_io, qS_asg, qS_asgT, qS_par, qS_setx, qS_app, qS_expr, qS_ret, qS_retv, qS_retn, qS_ife, qS_pass, qS_never, qSs_nil, qSs_cons, R.bind, R.of, W.fz, fzs, backO, cmpT, cmpI2, cmpInt, T.tru, opT, opInt, biT, lenT, listT, tupleT, sortedT, minT, maxT, intT, sumT, allT, anyT, ints_map, bls_map, fzs_iv, eqT_int, eqT_ints, hidOk, tgIn, wipeE, backE, isiT, tyT, Ty.sub, ixT, -List.map_map, rowT, c]
      · simp [qE_int, qE_bl, qE_non, qE_str, qE_cst, qE_rd, qE_rdx, qE_op, qE_neg, qE_cmp, qE_chn, qE_one, qE_and, qE_or, qE_not, qE_ife, qE_tup, qE_lst, qE_ix, qE_sl, qE_bi, qE_isi, qE_isis, qE_call, qE_callk, qE_lenS, qE_srtS, qE_lrng3, qE_rev, qE_lrng, qSe_of, qEs_nil, qEs_cons, qO_no, qO_so, qT_v, qT_one, qT_and, qT_or, qT_not, qTs_nil, qTs_cons, qI_e, qI_rng, qA_nil, qA_cons, qA_io, qS_asg, qS_asgT, qS_par, qS_setx, qS_app, qS_expr, qS_ret, qS_retv, qS_retn, qS_ife, qS_pass, qS_never, qSs_nil, qSs_cons, R.bind, R.of, W.fz, fzs, backO, cmpT, cmpI2, cmpInt, T.tru, opT, opInt, biT, lenT, listT, tupleT, sortedT, minT, maxT, intT, sumT, allT, anyT, ints_map, bls_map, fzs_iv, eqT_int, eqT_ints, hidOk, tgIn, wipeE, backE, isiT, tyT, Ty.sub, ixT, -List.map_map, rowT]
    have v1 := ev_lc i1 rfl l1
    have f1 : evS (cstG cs) (Cl d) (.for_ (.var 3) (.rng (.rd 0) .no) body18) [some (.val (.int b)), some (.val (.int m)), some (.lst [.lst []]), none, none] = .ok .nx [some (.val (.int b)), some (.val (.int m)), some w', x', none] := f0
    unfold body18 at f1
    simp [fd18, ir18, qE_int, qE_bl, qE_non, qE_str, qE_cst, qE_rd, qE_rdx, qE_op, qE_neg, qE_cmp, qE_chn, qE_one, qE_and, qE_or, qE_not, qE_ife, qE_tup, qE_lst, qE_ix, qE_sl, qE_bi, qE_isi, qE_isis, qE_call, qE_callk, qE_lenS, qE_srtS, qE_lrng3, qE_rev, qE_lrng, qSe_of, qEs_nil, qEs_cons, qO_no, qO_so, qT_v, qT_one, qT_and, qT_or, qT_not, qTs_nil, qTs_cons, qI_e, qI_rng, qA_nil, qA_cons, qA_io, qS_asg, qS_asgT, qS_par, qS_setx, qS_app, qS_expr, qS_ret, qS_retv, qS_retn, qS_ife, qS_pass, qS_never, qSs_nil, qSs_cons, R.bind, R.of, W.fz, fzs, backO, cmpT, cmpI2, cmpInt, T.tru, opT, opInt, biT, lenT, listT, tupleT, sortedT, minT, maxT, intT, sumT, allT, anyT, ints_map, bls_map, fzs_iv, eqT_int, eqT_ints, hidOk, tgIn, wipeE, backE, isiT, tyT, Ty.sub, ixT, -List.map_map, f1, v1]
  · show T.lst (fzs _) = _
    rw [fzs_map]
    rfl
end Zk69
set_option maxHeartbeats 4000000
namespace Zk69
open PySem Ev
/-- what may be written -/
structure Val (b : Int) (is : List Int) : Prop where
  len : is.length < 64
  rng : ∀ i ∈ is, 0 ≤ i ∧ i ≤ b - 1
  ded : (dedI [] is).length = is.length
def frI (m : Int) : List Int := rngI 0 m.toNat
def laI (b s m : Int) : Int := if b % s < m then b % s else m
def bkI (b s m : Int) : List Int := rngI 0 (m - laI b s m).toNat ++ rngI (b - laI b s m) (b - (b - laI b s m)).toNat
def packI (b s m : Int) : List Int := if b % s = 0 then frI m else if copI b s (bkI b s m) < copI b s (frI m) then bkI b s m else frI m
theorem c8' (d : Nat) {b s m : Int} {is : List Int} (h : Sto b s m) (v : Val b is) : Cl (d + 5) 8 [.val (.int b), .val (.int s), .val (.lst (is.map .int))] = .ok (.val (.int (copI b s is))) [] :=
  c8 d false b s is h.b1 (by have := h.b2; omega) h.s1 (by have := h.s2; omega) v.len v.rng v.ded
theorem c14 (d : Nat) {b s m : Int} (h : Sto b s m) (hf : Val b (frI m)) (hb : Val b (bkI b s m)) : ∃ w, Cl (d + 6) 14 [.val (.int b), .val (.int s), .val (.int m)] = .ok w [] ∧ w.fz = .lst ((packI b s m).map .int) := by
  have s0 : 0 < s := by have := h.s1; omega
  have a1 := c4' (d + 1) h
  have k1 := c8' d h hf
  have k2 := c8' d h hb
  have e0 : 0 ≤ b % s := Int.emod_nonneg _ (by omega)
  have e1 : b % s < s := Int.emod_lt_of_pos _ s0
  obtain ⟨h1, h2, h3, h4, h5, h6⟩ := h
  have o1 : okR m = true := by simp only [okR, Bool.and_eq_true, decide_eq_true_eq]; omega
  have la0 : 0 ≤ laI b s m ∧ laI b s m ≤ m := by unfold laI; split <;> omega
  have o2 : okR (m - laI b s m) = true := by simp only [okR, Bool.and_eq_true, decide_eq_true_eq]; omega
  have o3 : okR (b - laI b s m) = true := by simp only [okR, Bool.and_eq_true, decide_eq_true_eq]; omega
  have o4 : okR b = true := by simp only [okR, Bool.and_eq_true, decide_eq_true_eq]; omega
  have hlen : (rngI 0 (m - laI b s m).toNat).length + (rngI (b - laI b s m) (b - (b - laI b s m)).toNat).length ≤ 16777216 := by
    rw [rngI_len, rngI_len]
    omega
  by_cases z : b % s = 0
  · refine ⟨.lst ((frI m).map fun i => .val (.int i)), call_rt (fd := fd14) (env := [some (.val (.int b)), some (.val (.int s)), some (.val (.int m)), some (.val (.int (b % s))), none, none, none]) rfl rfl ?_, ?_⟩
    · simp [fd14, ir14, qE_int, qE_bl, qE_non, qE_str, qE_cst, qE_rd, qE_rdx, qE_op, qE_neg, qE_cmp, qE_chn, qE_one, qE_and, qE_or, qE_not, qE_ife, qE_tup, qE_lst, qE_ix, qE_sl, qE_bi, qE_isi, qE_isis, qE_call, qE_callk, qE_lenS, qE_srtS, qE_lrng3, qE_rev, qE_lrng, qSe_of, qEs_nil, qEs_cons, qO_no, qO_so, qT_v, qT_one, qT_and, qT_or, qT_not, qTs_nil, qTs_cons, qI_e, qI_rng, qA_nil, qA_cons, qA_io, qS_asg, qS_asgT, qS_par, qS_setx, qS_app, qS_expr, qS_ret, qS_retv, qS_retn, qS_ife, qS_pass, qS_never, qSs_nil, qSs_cons, R.bind, R.of, W.fz, fzs, backO, cmpT, cmpI2, cmpInt, T.tru, opT, opInt, biT, lenT, listT, tupleT, sortedT, minT, maxT, intT, sumT, allT, anyT, ints_map, bls_map, fzs_iv, eqT_int, eqT_ints, hidOk, tgIn, wipeE, backE, isiT, tyT, Ty.sub, ixT, fzs_val, -List.map_map, -List.map_append, a1, s0, rngT, o1, z, frI]
    · unfold packI
      rw [if_pos z]
      show T.lst (fzs _) = _
      rw [fzs_iv]
  · have el : (if b % s < m then b % s else m) = laI b s m := rfl
    have eb : (rngI 0 (m - laI b s m).toNat).map T.int ++ (rngI (b - laI b s m) (b - (b - laI b s m)).toNat).map T.int = (bkI b s m).map T.int := by
      unfold bkI
      rw [List.map_append]
    by_cases c : copI b s (bkI b s m) < copI b s (frI m)
    · refine ⟨.val (.lst ((bkI b s m).map .int)), call_rt (fd := fd14) (env := [some (.val (.int b)), some (.val (.int s)), some (.val (.int m)), some (.val (.int (b % s))), some (.val (.lst ((frI m).map .int))), some (.val (.int (laI b s m))), some (.val (.lst ((bkI b s m).map .int)))]) rfl rfl ?_, ?_⟩
      · simp only [frI] at k1 c ⊢
        simp [fd14, ir14, qE_int, qE_bl, qE_non, qE_str, qE_cst, qE_rd, qE_rdx, qE_op, qE_neg, qE_cmp, qE_chn, qE_one, qE_and, qE_or, qE_not, qE_ife, qE_tup, qE_lst, qE_ix, qE_sl, qE_bi, qE_isi, qE_isis, qE_call, qE_callk, qE_lenS, qE_srtS, qE_lrng3, qE_rev, qE_lrng, qSe_of, qEs_nil, qEs_cons, qO_no, qO_so, qT_v, qT_one, qT_and, qT_or, qT_not, qTs_nil, qTs_cons, qI_e, qI_rng, qA_nil, qA_cons, qA_io, qS_asg, qS_asgT, qS_par, qS_setx, qS_app, qS_expr, qS_ret, qS_retv, qS_retn, qS_ife, qS_pass, qS_never, qSs_nil, qSs_cons, R.bind, R.of, W.fz, fzs, backO, cmpT, cmpI2, cmpInt, T.tru, opT, opInt, biT, lenT, listT, tupleT, sortedT, minT, maxT, intT, sumT, allT, anyT, ints_map, bls_map, fzs_iv, eqT_int, eqT_ints, hidOk, tgIn, wipeE, backE, isiT, tyT, Ty.sub, ixT, fzs_val, -List.map_map, -List.map_append, a1, s0, rngT, o1, o2, o3, o4, z, el, hlen, eb, k1, k2, c]
      · unfold packI
        rw [if_neg z, if_pos c]
        rfl
    · refine ⟨.val (.lst ((frI m).map .int)), call_rt (fd := fd14) (env := [some (.val (.int b)), some (.val (.int s)), some (.val (.int m)), some (.val (.int (b % s))), some (.val (.lst ((frI m).map .int))), some (.val (.int (laI b s m))), some (.val (.lst ((bkI b s m).map .int)))]) rfl rfl ?_, ?_⟩
      · simp only [frI] at k1 c ⊢
        simp [fd14, ir14, qE_int, qE_bl, qE_non, qE_str, qE_cst, qE_rd, qE_rdx, qE_op, qE_neg, qE_cmp, qE_chn, qE_one, qE_and, qE_or, qE_not, qE_ife, qE_tup, qE_lst, qE_ix, qE_sl, qE_bi, qE_isi, qE_isis, qE_call, qE_callk, qE_lenS, qE_srtS, qE_lrng3, qE_rev, qE_lrng, qSe_of, qEs_nil, qEs_cons, qO_no, qO_so, qT_v, qT_one, qT_and, qT_or, qT_not, qTs_nil, qTs_cons, qI_e, qI_rng, qA_nil, qA_cons, qA_io, qS_asg, qS_asgT, qS_par, qS_setx, qS_app, qS_expr, qS_ret, qS_retv, qS_retn, qS_ife, qS_pass, qS_never, qSs_nil, qSs_cons, R.bind, R.of, W.fz, fzs, backO, cmpT, cmpI2, cmpInt, T.tru, opT, opInt, biT, lenT, listT, tupleT, sortedT, minT, maxT, intT, sumT, allT, anyT, ints_map, bls_map, fzs_iv, eqT_int, eqT_ints, hidOk, tgIn, wipeE, backE, isiT, tyT, Ty.sub, ixT, fzs_val, -List.map_map, -List.map_append, a1, s0, rngT, o1, o2, o3, o4, z, el, hlen, eb, k1, k2, c]
      · unfold packI
        rw [if_neg z, if_neg c]
        rfl
theorem pack_val {b s m : Int} (hf : Val b (frI m)) (hb : Val b (bkI b s m)) : Val b (packI b s m) := by
  unfold packI
  split
  · exact hf
  · split
    · exact hb
    · exact hf
theorem c12 (d : Nat) {b s m : Int} (h : Sto b s m) (hf : Val b (frI m)) (hb : Val b (bkI b s m)) : Cl (d + 7) 12 [.val (.int b), .val (.int s), .val (.int m)] = .ok (.val (.int (copI b s (packI b s m)))) [] := by
  obtain ⟨w, a1, a2⟩ := c14 d h hf hb
  have a3 := c8' (d + 1) h (pack_val hf hb)
  refine call_rt (fd := fd12) (env := [some (.val (.int b)), some (.val (.int s)), some (.val (.int m))]) rfl rfl ?_
  simp [fd12, ir12, qE_int, qE_bl, qE_non, qE_str, qE_cst, qE_rd, qE_rdx, qE_op, qE_neg, qE_cmp, qE_chn, qE_one, qE_and, qE_or, qE_not, qE_ife, qE_tup, qE_lst, qE_ix, qE_sl, qE_bi, qE_isi, qE_isis, qE_call, qE_callk, qE_lenS, qE_srtS, qE_lrng3, qE_rev, qE_lrng, qSe_of, qEs_nil, qEs_cons, qO_no, qO_so, qT_v, qT_one, qT_and, qT_or, qT_not, qTs_nil, qTs_cons, qI_e, qI_rng, qA_nil, qA_cons, qA_io, qS_asg, qS_asgT, qS_par, qS_setx, qS_app, qS_expr, qS_ret, qS_retv, qS_retn, qS_ife, qS_pass, qS_never, qSs_nil, qSs_cons, R.bind, R.of, W.fz, fzs, backO, cmpT, cmpI2, cmpInt, T.tru, opT, opInt, biT, lenT, listT, tupleT, sortedT, minT, maxT, intT, sumT, allT, anyT, ints_map, bls_map, fzs_iv, eqT_int, eqT_ints, hidOk, tgIn, wipeE, backE, isiT, tyT, Ty.sub, ixT, fzs_val, -List.map_map, -List.map_append, a1, a2, a3]
/-! ### spread -/
def cutI (xs : List Int) (lo hi : Option Int) : List Int := (xs.drop (HT.sIx xs.length 0 lo)).take (HT.sIx xs.length xs.length hi - HT.sIx xs.length 0 lo)
theorem cut_map (xs : List Int) (lo hi : Option Int) : cutT (xs.map .int) lo hi = (cutI xs lo hi).map .int := by
  unfold cutT cutI
  rw [List.length_map, List.map_take, List.map_drop]
def hdI (b s m : Int) : List Int := cutI (stepI 0 s ((b + s - 1) / s).toNat) none (some m)
def rsI (b s : Int) : List Int := (rngI 0 b.toNat).filter fun i => decide (i % s ≠ 0)
def spI (b s m : Int) : List Int := hdI b s m ++ cutI (rsI b s) none (some (m - ((hdI b s m).length : Int)))
theorem c15 (d : Nat) {b s m : Int} (h : Sto b s m) (hl : (hdI b s m).length ≤ 1000) (hl2 : (cutI (rsI b s) none (some (m - ((hdI b s m).length : Int)))).length ≤ 1000) :
    Cl (d + 5) 15 [.val (.int b), .val (.int s), .val (.int m)] = .ok (.lst ((sortI (spI b s m)).map fun i => .val (.int i))) [] := by
  have a1 := c4' d h
  obtain ⟨h1, h2, h3, h4, h5, h6⟩ := h
  have s0 : 0 < s := by omega
  have s1 : s ≤ 16777216 := by omega
  have o1 : okR 0 = true := rfl
  have o4 : okR b = true := by simp only [okR, Bool.and_eq_true, decide_eq_true_eq]; omega
  refine call_rt (fd := fd15) (env := [some (.val (.int b)), some (.val (.int s)), some (.val (.int m)), some (.val (.lst ((hdI b s m).map .int))), some (.val (.lst ((rsI b s).map .int))), none]) rfl rfl ?_
  have r3 : rng3T (.int 0) (.int b) (.int s) = some (stepI 0 s ((b + s - 1) / s).toNat) := by
    show (if (okR 0 && okR b && decide (0 < s) && decide (s ≤ 16777216)) = true then _ else _) = _
    rw [if_pos (by simp [o1, o4, s0, s1]), Int.sub_zero]
  have sl1 : slT (.lst ((stepI 0 s ((b + s - 1) / s).toNat).map .int)) none (some m) = some (.lst (((hdI b s m).map .int).map .val)) := by
    show some (W.lst ((cutT ((stepI 0 s ((b + s - 1) / s).toNat).map .int) none (some m)).map .val)) = _
    rw [cut_map]
    rfl
  have i1 : evI (cstG cs) (Cl (d + 4)) (.rng (.rd 0) .no) [some (.val (.int b)), some (.val (.int s)), some (.val (.int m)), some (.lst (((hdI b s m).map .int).map .val)), none, none] = .ok ((rngI 0 b.toNat).map .int) [some (.val (.int b)), some (.val (.int s)), some (.val (.int m)), some (.lst (((hdI b s m).map .int).map .val)), none, none] := by
    simp [qE_int, qE_bl, qE_non, qE_str, qE_cst, qE_rd, qE_rdx, qE_op, qE_neg, qE_cmp, qE_chn, qE_one, qE_and, qE_or, qE_not, qE_ife, qE_tup, qE_lst, qE_ix, qE_sl, qE_bi, qE_isi, qE_isis, qE_call, qE_callk, qE_lenS, qE_srtS, qE_lrng3, qE_rev, qE_lrng, qSe_of, qEs_nil, qEs_cons, qO_no, qO_so, qT_v, qT_one, qT_and, qT_or, qT_not, qTs_nil, qTs_cons, qI_e, qI_rng, qA_nil, qA_cons, qA_io, qS_asg, qS_asgT, qS_par, qS_setx, qS_app, qS_expr, qS_ret, qS_retv, qS_retn, qS_ife, qS_pass, qS_never, qSs_nil, qSs_cons, R.bind, R.of, W.fz, fzs, backO, cmpT, cmpI2, cmpInt, T.tru, opT, opInt, biT, lenT, listT, tupleT, sortedT, minT, maxT, intT, sumT, allT, anyT, ints_map, bls_map, fzs_iv, eqT_int, eqT_ints, hidOk, tgIn, wipeE, backE, isiT, tyT, Ty.sub, ixT, fzs_val, -List.map_map, -List.map_append, rngT, o4]
  have l1 : lcL (.var 5) [5] (evTs (cstG cs) (Cl (d + 4)) (.cons (.v (.cmp .NotEq (.op .Mod (.rd 5) (.rd 1)) (.int 0))) .nil)) (evE (cstG cs) (Cl (d + 4)) (.rd 5)) ((rngI 0 b.toNat).map .int) [] [some (.val (.int b)), some (.val (.int s)), some (.val (.int m)), some (.lst (((hdI b s m).map .int).map .val)), none, none] =
      .ok ((rsI b s).map fun i => .val (.int i)) [some (.val (.int b)), some (.val (.int s)), some (.val (.int m)), some (.lst (((hdI b s m).map .int).map .val)), none, none] := by
    have := lcL_eq (e := T.int) (p := fun i : Int => decide (i % s ≠ 0)) (f := fun i : Int => W.val (.int i)) (i := 5) (test := evTs (cstG cs) (Cl (d + 4)) (.cons (.v (.cmp .NotEq (.op .Mod (.rd 5) (.rd 1)) (.int 0))) .nil)) (elt := evE (cstG cs) (Cl (d + 4)) (.rd 5)) (env := [some (.val (.int b)), some (.val (.int s)), some (.val (.int m)), some (.lst (((hdI b s m).map .int).map .val)), none, none]) rfl (rngI 0 b.toNat) [] (by rw [rngI_len]; simp only [List.length_nil]; omega) fun i _ => ⟨?_, fun hp => ?_⟩
    · exact this
    · by_cases c : i % s = 0 <;> simp [qE_int, qE_bl, qE_non, qE_str, qE_cst, qE_rd, qE_rdx, qE_op, qE_neg, qE_cmp, qE_chn, qE_one, qE_and, qE_or, qE_not, qE_ife, qE_tup, qE_lst, qE_ix, qE_sl, qE_bi, qE_isi, qE_isis, qE_call, qE_callk, qE_lenS, qE_srtS, qE_lrng3, qE_rev, qE_lrng, qSe_of, qEs_nil, qEs_cons, qO_no, qO_so, qT_v, qT_one, qT_and, qT_or, qT_not, qTs_nil, qTs_cons, qI_e, qI_rng, qA_nil, qA_cons, qA_io, qS_asg, qS_asgT, qS_par, qS_setx, qS_app, qS_expr, qS_ret, qS_retv, qS_retn, qS_ife, qS_pass, qS_never, qSs_nil, qSs_cons, R.bind, R.of, W.fz, fzs, backO, cmpT, cmpI2, cmpInt, T.tru, opT, opInt, biT, lenT, listT, tupleT, sortedT, minT, maxT, intT, sumT, allT, anyT, ints_map, bls_map, fzs_iv, eqT_int, eqT_ints, hidOk, tgIn, wipeE, backE, isiT, tyT, Ty.sub, ixT, fzs_val, -List.map_map, -List.map_append, s0, c]
    · simp [qE_int, qE_bl, qE_non, qE_str, qE_cst, qE_rd, qE_rdx, qE_op, qE_neg, qE_cmp, qE_chn, qE_one, qE_and, qE_or, qE_not, qE_ife, qE_tup, qE_lst, qE_ix, qE_sl, qE_bi, qE_isi, qE_isis, qE_call, qE_callk, qE_lenS, qE_srtS, qE_lrng3, qE_rev, qE_lrng, qSe_of, qEs_nil, qEs_cons, qO_no, qO_so, qT_v, qT_one, qT_and, qT_or, qT_not, qTs_nil, qTs_cons, qI_e, qI_rng, qA_nil, qA_cons, qA_io, qS_asg, qS_asgT, qS_par, qS_setx, qS_app, qS_expr, qS_ret, qS_retv, qS_retn, qS_ife, qS_pass, qS_never, qSs_nil, qSs_cons, R.bind, R.of, W.fz, fzs, backO, cmpT, cmpI2, cmpInt, T.tru, opT, opInt, biT, lenT, listT, tupleT, sortedT, minT, maxT, intT, sumT, allT, anyT, ints_map, bls_map, fzs_iv, eqT_int, eqT_ints, hidOk, tgIn, wipeE, backE, isiT, tyT, Ty.sub, ixT, fzs_val, -List.map_map, -List.map_append]
  have v1 := ev_lc i1 rfl l1
  have sl2 : slT (.lst ((rsI b s).map .int)) none (some (m - ((hdI b s m).length : Int))) = some (.lst (((cutI (rsI b s) none (some (m - ((hdI b s m).length : Int)))).map .int).map .val)) := by
    show some (W.lst ((cutT ((rsI b s).map .int) none (some (m - ((hdI b s m).length : Int)))).map .val)) = _
    rw [cut_map]
  have hsum : ((hdI b s m).map T.int).length + ((cutI (rsI b s) none (some (m - ((hdI b s m).length : Int)))).map T.int).length ≤ 16777216 := by
    rw [List.length_map, List.length_map]
    omega
  have ea : (hdI b s m).map T.int ++ (cutI (rsI b s) none (some (m - ((hdI b s m).length : Int)))).map T.int = (spI b s m).map T.int := by
    unfold spI
    rw [List.map_append]
  have hsum' : (hdI b s m).length + (cutI (rsI b s) none (some (m - ((hdI b s m).length : Int)))).length ≤ 16777216 := by omega
  have i2 : evI (cstG cs) (Cl (d + 4)) (.e (.op .Add (.rd 3) (.sl (.rd 4) .no (.so (.op .Sub (.rd 2) (.bi .len (.cons (.rd 3) .nil))))))) [some (.val (.int b)), some (.val (.int s)), some (.val (.int m)), some (.lst (((hdI b s m).map .int).map .val)), some (.lst ((rsI b s).map fun i => .val (.int i))), none] = .ok ((spI b s m).map .int) [some (.val (.int b)), some (.val (.int s)), some (.val (.int m)), some (.val (.lst ((hdI b s m).map .int))), some (.val (.lst ((rsI b s).map .int))), none] := by
    simp [qE_int, qE_bl, qE_non, qE_str, qE_cst, qE_rd, qE_rdx, qE_op, qE_neg, qE_cmp, qE_chn, qE_one, qE_and, qE_or, qE_not, qE_ife, qE_tup, qE_lst, qE_ix, qE_sl, qE_bi, qE_isi, qE_isis, qE_call, qE_callk, qE_lenS, qE_srtS, qE_lrng3, qE_rev, qE_lrng, qSe_of, qEs_nil, qEs_cons, qO_no, qO_so, qT_v, qT_one, qT_and, qT_or, qT_not, qTs_nil, qTs_cons, qI_e, qI_rng, qA_nil, qA_cons, qA_io, qS_asg, qS_asgT, qS_par, qS_setx, qS_app, qS_expr, qS_ret, qS_retv, qS_retn, qS_ife, qS_pass, qS_never, qSs_nil, qSs_cons, R.bind, R.of, W.fz, fzs, backO, cmpT, cmpI2, cmpInt, T.tru, opT, opInt, biT, lenT, listT, tupleT, sortedT, minT, maxT, intT, sumT, allT, anyT, ints_map, bls_map, fzs_iv, eqT_int, eqT_ints, hidOk, tgIn, wipeE, backE, isiT, tyT, Ty.sub, ixT, fzs_val, -List.map_map, -List.map_append, sl2, hsum', ea]
  have l2 : lcL (.var 5) [5] (evTs (cstG cs) (Cl (d + 4)) .nil) (evE (cstG cs) (Cl (d + 4)) (.bi .int (.cons (.rd 5) .nil))) ((spI b s m).map .int) [] [some (.val (.int b)), some (.val (.int s)), some (.val (.int m)), some (.val (.lst ((hdI b s m).map .int))), some (.val (.lst ((rsI b s).map .int))), none] = .ok ((spI b s m).map fun i => .val (.int i)) [some (.val (.int b)), some (.val (.int s)), some (.val (.int m)), some (.val (.lst ((hdI b s m).map .int))), some (.val (.lst ((rsI b s).map .int))), none] := by
    refine lcL_all rfl (spI b s m) ?_ (fun a _ => rfl) fun a _ => ?_
    · show (hdI b s m ++ cutI (rsI b s) none (some (m - ((hdI b s m).length : Int)))).length ≤ _
      rw [List.length_append]
      omega
    · simp [qE_int, qE_bl, qE_non, qE_str, qE_cst, qE_rd, qE_rdx, qE_op, qE_neg, qE_cmp, qE_chn, qE_one, qE_and, qE_or, qE_not, qE_ife, qE_tup, qE_lst, qE_ix, qE_sl, qE_bi, qE_isi, qE_isis, qE_call, qE_callk, qE_lenS, qE_srtS, qE_lrng3, qE_rev, qE_lrng, qSe_of, qEs_nil, qEs_cons, qO_no, qO_so, qT_v, qT_one, qT_and, qT_or, qT_not, qTs_nil, qTs_cons, qI_e, qI_rng, qA_nil, qA_cons, qA_io, qS_asg, qS_asgT, qS_par, qS_setx, qS_app, qS_expr, qS_ret, qS_retv, qS_retn, qS_ife, qS_pass, qS_never, qSs_nil, qSs_cons, R.bind, R.of, W.fz, fzs, backO, cmpT, cmpI2, cmpInt, T.tru, opT, opInt, biT, lenT, listT, tupleT, sortedT, minT, maxT, intT, sumT, allT, anyT, ints_map, bls_map, fzs_iv, eqT_int, eqT_ints, hidOk, tgIn, wipeE, backE, isiT, tyT, Ty.sub, ixT, fzs_val, -List.map_map, -List.map_append]
  have v2 := ev_lc i2 rfl l2
  simp [fd15, ir15, qE_int, qE_bl, qE_non, qE_str, qE_cst, qE_rd, qE_rdx, qE_op, qE_neg, qE_cmp, qE_chn, qE_one, qE_and, qE_or, qE_not, qE_ife, qE_tup, qE_lst, qE_ix, qE_sl, qE_bi, qE_isi, qE_isis, qE_call, qE_callk, qE_lenS, qE_srtS, qE_lrng3, qE_rev, qE_lrng, qSe_of, qEs_nil, qEs_cons, qO_no, qO_so, qT_v, qT_one, qT_and, qT_or, qT_not, qTs_nil, qTs_cons, qI_e, qI_rng, qA_nil, qA_cons, qA_io, qS_asg, qS_asgT, qS_par, qS_setx, qS_app, qS_expr, qS_ret, qS_retv, qS_retn, qS_ife, qS_pass, qS_never, qSs_nil, qSs_cons, R.bind, R.of, W.fz, fzs, backO, cmpT, cmpI2, cmpInt, T.tru, opT, opInt, biT, lenT, listT, tupleT, sortedT, minT, maxT, intT, sumT, allT, anyT, ints_map, bls_map, fzs_iv, eqT_int, eqT_ints, hidOk, tgIn, wipeE, backE, isiT, tyT, Ty.sub, ixT, fzs_val, -List.map_map, -List.map_append, a1, r3, sl1, v1, v2]
theorem c20 (d : Nat) {b m : Int} {is : List Int} {x0 xl : Int} (hl : is.length < 64) (h1 : sortI (dedI [] is) = is) (h2 : (is.length : Int) = m) (h3 : L2.atI is 0 = some x0) (h4 : 0 ≤ x0) (h5 : L2.atI is (-1) = some xl) (h6 : xl < b) :
    Cl (d + 1) 20 [.val (.lst (is.map .int)), .val (.int b), .val (.int m)] = .ok (.val (.bl true)) [] := by
  refine call_rt (fd := fd20) (env := [some (.val (.lst (is.map .int))), some (.val (.int b)), some (.val (.int m))]) rfl rfl ?_
  have at_map : ∀ (i : Int) (x : Int), L2.atI is i = some x → L2.atI (is.map T.int) i = some (.int x) := fun i x hx => by
    unfold L2.atI at hx ⊢
    rw [List.length_map]
    cases en : L2.ixN is.length i with
    | none => rw [en] at hx; cases hx
    | some j =>
      rw [en] at hx
      show (is.map T.int)[j]? = _
      rw [List.getElem?_map, show is[j]? = some x from hx]
      rfl
  have g1 := at_map 0 x0 h3
  have g2 := at_map (-1) xl h5
  have hz : (dedI [] is).length < 64 := by
    have := dedI_le is []
    simp only [List.length_nil] at this
    omega
  have h9 : is.length < 4095 := by omega
  simp [fd20, ir20, qE_int, qE_bl, qE_non, qE_str, qE_cst, qE_rd, qE_rdx, qE_op, qE_neg, qE_cmp, qE_chn, qE_one, qE_and, qE_or, qE_not, qE_ife, qE_tup, qE_lst, qE_ix, qE_sl, qE_bi, qE_isi, qE_isis, qE_call, qE_callk, qE_lenS, qE_srtS, qE_lrng3, qE_rev, qE_lrng, qSe_of, qEs_nil, qEs_cons, qO_no, qO_so, qT_v, qT_one, qT_and, qT_or, qT_not, qTs_nil, qTs_cons, qI_e, qI_rng, qA_nil, qA_cons, qA_io, qS_asg, qS_asgT, qS_par, qS_setx, qS_app, qS_expr, qS_ret, qS_retv, qS_retn, qS_ife, qS_pass, qS_never, qSs_nil, qSs_cons, R.bind, R.of, W.fz, fzs, backO, cmpT, cmpI2, cmpInt, T.tru, opT, opInt, biT, lenT, listT, tupleT, sortedT, minT, maxT, intT, sumT, allT, anyT, ints_map, bls_map, fzs_iv, eqT_int, eqT_ints, hidOk, tgIn, wipeE, backE, isiT, tyT, Ty.sub, ixT, fzs_val, -List.map_map, -List.map_append, h9, hz, h1, h2, g1, g2, h4, h6]
end Zk69
set_option maxHeartbeats 4000000
namespace Zk69
open PySem Ev
theorem ded_nd (ns : List Int) : (dedI [] ns).Nodup ∧ ∀ j, j ∈ dedI [] ns ↔ j ∈ ns := by
  obtain ⟨S', n', h1, h2⟩ := dedI_is ns [] _ 0 SetIs.nil
  refine ⟨h1.nd, fun j => ?_⟩
  rw [← h1.mem j, h2 j]
  exact ⟨fun z => z.elim (fun z => by cases z) id, .inr⟩
theorem ded_perm {l m : List Int} (h : ∀ j, j ∈ l ↔ j ∈ m) : (dedI [] l).Perm (dedI [] m) := by
  obtain ⟨a1, a2⟩ := ded_nd l
  obtain ⟨b1, b2⟩ := ded_nd m
  rw [List.perm_iff_count]
  intro j
  have h1 := List.nodup_iff_count.mp a1 j
  have h2 := List.nodup_iff_count.mp b1 j
  have h3 : j ∈ dedI [] l ↔ j ∈ dedI [] m := by rw [a2, b2, h]
  by_cases d : j ∈ dedI [] l
  · have := List.count_pos_iff.mpr d
    have := List.count_pos_iff.mpr (h3.mp d)
    omega
  · rw [List.count_eq_zero.mpr d, List.count_eq_zero.mpr fun z => d (h3.mpr z)]
theorem regs_rev (s : Int) (is : List Int) : regsI s is.reverse = regsI s is := by
  unfold regsI
  refine srt_uniq ?_ (sortI_srt _) (sortI_srt _)
  refine (sortI_perm _).trans (List.Perm.trans (ded_perm fun j => ?_) (sortI_perm _).symm)
  rw [List.map_reverse, List.mem_reverse]
theorem cop_rev (b s : Int) (is : List Int) : copI b s is.reverse = copI b s is := by
  unfold copI
  rw [regs_rev]
theorem Val.rev {b : Int} {is : List Int} (v : Val b is) : Val b is.reverse := by
  refine ⟨by rw [List.length_reverse]; exact v.len, fun i hi => v.rng i (List.mem_reverse.mp hi), ?_⟩
  rw [List.length_reverse, ← v.ded]
  exact (ded_perm fun j => List.mem_reverse).length_eq
def body21 : Ss := (.cons (.ife (.or (.v (.cmp .NotEq (.call 6 (.cons (.rd 1) (.cons (.rd 2) (.cons (.rd 6) .nil))) []) (.rd 5))) (.one (.v (.cmp .NotEq (.call 8 (.cons (.rd 1) (.cons (.rd 2) (.cons (.rd 6) .nil))) []) (.call 19 (.cons (.rd 1) (.cons (.rd 2) (.cons (.rd 4) .nil))) []))))) (.cons (.ret (.bl false)) .nil) .nil) .nil)
theorem told_ev (d : Nat) {b s m : Int} {is js : List Int} (h : Sto b s m) (v : Val b is) (vj : Val b js) (hr : regsI s js = regsI s is) (hc : copI b s js = copI b s is) (q : Bool) (x : Option W) (rw_ : W) (w5 : W) (h5 : w5.fz = .lst ((regsI s is).map .int)) (rT : T) :
    evSs (cstG cs) (Cl (d + 5)) body21 [x, some (.val (.int b)), some (.val (.int s)), some (.val rT), some (.val (.lst (is.map .int))), some w5, some (.val (tl q js)), none] =
      .ok .nx [x, some (.val (.int b)), some (.val (.int s)), some (.val rT), some (.val (.lst (is.map .int))), some (.val (.lst ((regsI s is).map .int))), some (.val (tl q js)), none] := by
  have a1 := c6 (d + 1) q b s js h.b1 (by have := h.b2; omega) h.s1 (by have := h.s2; omega) vj.len vj.rng vj.ded
  have a2 := c8 d q b s js h.b1 (by have := h.b2; omega) h.s1 (by have := h.s2; omega) vj.len vj.rng vj.ded
  have a3 := c19 (d + 4) b s is h.s1 (by have := h.s2; omega) v.len
  rw [hr] at a1
  rw [hc] at a2
  cases q <;> simp only [tl] at a1 a2 ⊢ <;> simp [body21, qE_int, qE_bl, qE_non, qE_str, qE_cst, qE_rd, qE_rdx, qE_op, qE_neg, qE_cmp, qE_chn, qE_one, qE_and, qE_or, qE_not, qE_ife, qE_tup, qE_lst, qE_ix, qE_sl, qE_bi, qE_isi, qE_isis, qE_call, qE_callk, qE_lenS, qE_srtS, qE_lrng3, qE_rev, qE_lrng, qSe_of, qEs_nil, qEs_cons, qO_no, qO_so, qT_v, qT_one, qT_and, qT_or, qT_not, qTs_nil, qTs_cons, qI_e, qI_rng, qA_nil, qA_cons, qA_io, qS_asg, qS_asgT, qS_par, qS_setx, qS_app, qS_expr, qS_ret, qS_retv, qS_retn, qS_ife, qS_pass, qS_never, qSs_nil, qSs_cons, R.bind, R.of, W.fz, fzs, backO, cmpT, cmpI2, cmpInt, T.tru, opT, opInt, biT, lenT, listT, tupleT, sortedT, minT, maxT, intT, sumT, allT, anyT, ints_map, bls_map, fzs_iv, eqT_int, eqT_ints, hidOk, tgIn, wipeE, backE, isiT, tyT, Ty.sub, ixT, fzs_val, -List.map_map, -List.map_append, a1, a2, a3, h5]
theorem c21 (d : Nat) {b s m p0 p1 : Int} {rows : List (List Int)} (h : Sto b s m) (hp : PoolOk p1) (hne : 0 < rows.length) (hle : rows.length < 100000) (hv : ∀ r ∈ rows, Val b r) :
    ∃ q0 q1, PoolOk q1 ∧ Cl (d + 6) 21 [PoolW p0 p1, .val (.int b), .val (.int s), .val (.lst (rows.map rowT))] = .ok (.val (.bl true)) [some (PoolW q0 q1)] := by
  obtain ⟨r, q0, q1, r1, r2, hq, ht⟩ := c17 (d + 4) p0 p1 rows.length hp (by omega) (by omega)
  have hlt : r.toNat < rows.length := by omega
  have hat : L2.atI (rows.map rowT) r = some (rowT rows[r.toNat]) := by
    unfold L2.atI L2.ixN
    rw [List.length_map, if_pos r1, if_pos r2]
    show (rows.map rowT)[r.toNat]? = _
    rw [List.getElem?_map, List.getElem?_eq_getElem hlt]
    rfl
  generalize hrow : rows[r.toNat] = is at hat
  have v : Val b is := hv is (by rw [← hrow]; exact List.getElem_mem hlt)
  have hat' : L2.atI (rows.map rowT) r = some (.lst (is.map .int)) := hat
  refine ⟨q0, q1, hq, call_rt (fd := fd21) (env := [some (PoolW q0 q1), some (.val (.int b)), some (.val (.int s)), some (.val (.lst (rows.map rowT))), some (.val (.lst (is.map .int))), some (.val (.lst ((regsI s is).map .int))), some (.val (.tup (is.map .int))), none]) rfl rfl ?_⟩
  have v0 := rg (Cl (d + 5)) s is (by have := h.s1; omega) (by have := h.s2; omega) v.len [some (PoolW q0 q1), some (.val (.int b)), some (.val (.int s)), some (.val (.lst (rows.map rowT))), some (.val (.lst (is.map .int))), none, none, none] 7 4 2 rfl rfl rfl (by decide) (by decide)
  have hz : (dedI [] (is.map fun i => i / s)).length < 64 := by
    have := dedI_le (is.map fun i => i / s) []
    have := v.len
    rw [List.length_map] at *
    simp only [List.length_nil] at *
    omega
  have er : sortI (dedI [] (is.map fun i => i / s)) = regsI s is := rfl
  have w5 : (W.lst ((regsI s is).map fun i => .val (.int i))).fz = .lst ((regsI s is).map .int) := by
    show T.lst (fzs _) = _
    rw [fzs_iv]
  have t1 := told_ev d h v v rfl rfl false (some (PoolW q0 q1)) (.val .non) _ w5 (.lst (rows.map rowT))
  have t2 := told_ev d h v v.rev (regs_rev s is) (cop_rev b s is) false (some (PoolW q0 q1)) (.val .non) (.val (.lst ((regsI s is).map .int))) rfl (.lst (rows.map rowT))
  have t3 := told_ev d h v v rfl rfl true (some (PoolW q0 q1)) (.val .non) (.val (.lst ((regsI s is).map .int))) rfl (.lst (rows.map rowT))
  have i1 : evI (cstG cs) (Cl (d + 5)) (.e (.lst (.cons (.rd 4) (.cons (.rev (.rd 4)) (.cons (.bi .tuple (.cons (.rd 4) .nil)) .nil))))) [some (PoolW q0 q1), some (.val (.int b)), some (.val (.int s)), some (.val (.lst (rows.map rowT))), some (.val (.lst (is.map .int))), some (.lst ((regsI s is).map fun i => .val (.int i))), none, none] =
      .ok [tl false is, tl false is.reverse, tl true is] [some (PoolW q0 q1), some (.val (.int b)), some (.val (.int s)), some (.val (.lst (rows.map rowT))), some (.val (.lst (is.map .int))), some (.lst ((regsI s is).map fun i => .val (.int i))), none, none] := by
    simp [qE_int, qE_bl, qE_non, qE_str, qE_cst, qE_rd, qE_rdx, qE_op, qE_neg, qE_cmp, qE_chn, qE_one, qE_and, qE_or, qE_not, qE_ife, qE_tup, qE_lst, qE_ix, qE_sl, qE_bi, qE_isi, qE_isis, qE_call, qE_callk, qE_lenS, qE_srtS, qE_lrng3, qE_rev, qE_lrng, qSe_of, qEs_nil, qEs_cons, qO_no, qO_so, qT_v, qT_one, qT_and, qT_or, qT_not, qTs_nil, qTs_cons, qI_e, qI_rng, qA_nil, qA_cons, qA_io, qS_asg, qS_asgT, qS_par, qS_setx, qS_app, qS_expr, qS_ret, qS_retv, qS_retn, qS_ife, qS_pass, qS_never, qSs_nil, qSs_cons, R.bind, R.of, W.fz, fzs, backO, cmpT, cmpI2, cmpInt, T.tru, opT, opInt, biT, lenT, listT, tupleT, sortedT, minT, maxT, intT, sumT, allT, anyT, ints_map, bls_map, fzs_iv, eqT_int, eqT_ints, hidOk, tgIn, wipeE, backE, isiT, tyT, Ty.sub, ixT, fzs_val, -List.map_map, -List.map_append, revT, tl, List.map_reverse]
    rw [← List.map_reverse, fzs_val]
  have l1 : forL (.var 6) (evSs (cstG cs) (Cl (d + 5)) body21) [tl false is, tl false is.reverse, tl true is] [some (PoolW q0 q1), some (.val (.int b)), some (.val (.int s)), some (.val (.lst (rows.map rowT))), some (.val (.lst (is.map .int))), some (.lst ((regsI s is).map fun i => .val (.int i))), none, none] =
      .ok .nx [some (PoolW q0 q1), some (.val (.int b)), some (.val (.int s)), some (.val (.lst (rows.map rowT))), some (.val (.lst (is.map .int))), some (.val (.lst ((regsI s is).map .int))), some (.val (tl true is)), none] := by
    simp [forL, tgE, R.bind, t1, t2, t3]
  have f1 := ev_for i1 l1
  unfold body21 at f1
  have htl : tl true is = .tup (is.map .int) := rfl
  simp [fd21, ir21, qE_int, qE_bl, qE_non, qE_str, qE_cst, qE_rd, qE_rdx, qE_op, qE_neg, qE_cmp, qE_chn, qE_one, qE_and, qE_or, qE_not, qE_ife, qE_tup, qE_lst, qE_ix, qE_sl, qE_bi, qE_isi, qE_isis, qE_call, qE_callk, qE_lenS, qE_srtS, qE_lrng3, qE_rev, qE_lrng, qSe_of, qEs_nil, qEs_cons, qO_no, qO_so, qT_v, qT_one, qT_and, qT_or, qT_not, qTs_nil, qTs_cons, qI_e, qI_rng, qA_nil, qA_cons, qA_io, qS_asg, qS_asgT, qS_par, qS_setx, qS_app, qS_expr, qS_ret, qS_retv, qS_retn, qS_ife, qS_pass, qS_never, qSs_nil, qSs_cons, R.bind, R.of, W.fz, fzs, backO, cmpT, cmpI2, cmpInt, T.tru, opT, opInt, biT, lenT, listT, tupleT, sortedT, minT, maxT, intT, sumT, allT, anyT, ints_map, bls_map, fzs_iv, eqT_int, eqT_ints, hidOk, tgIn, wipeE, backE, isiT, tyT, Ty.sub, ixT, fzs_val, -List.map_map, -List.map_append, ht, hat', v0, hz, er, f1, htl]
end Zk69
set_option maxHeartbeats 8000000
namespace Zk69
open PySem Ev
structure IsS (b m : Int) (is : List Int) : Prop where
  len : is.length < 64
  srt : sortI (dedI [] is) = is
  cnt : (is.length : Int) = m
  ends : ∃ x0 xl, L2.atI is 0 = some x0 ∧ 0 ≤ x0 ∧ L2.atI is (-1) = some xl ∧ xl < b
def dlI (s : Int) (r : List Int) : Int := ((dedI [] (r.map fun x => x / s)).length : Nat)
/-- what is to be seen of the numbers -/
structure Cf (b s m : Int) : Prop where
  ne : 0 < (setsI b m).length
  lt : (setsI b m).length < 4000
  val : ∀ r ∈ setsI b m, Val b r
  fr : Val b (frI m)
  bk : Val b (bkI b s m)
  hd : (hdI b s m).length ≤ 1000
  ct : (cutI (rsI b s) none (some (m - ((hdI b s m).length : Int)))).length ≤ 1000
  cop : ∃ x xs, (setsI b m).map (copI b s) = x :: xs ∧ minI x xs = copI b s (packI b s m) ∧ maxI x xs = (if b < m * s then b else m * s) ∧ copI b s (sortI (spI b s m)) = (if b < m * s then b else m * s)
  reg : ∃ x xs, (setsI b m).map (dlI s) = x :: xs ∧ minI x xs = (m + s - 1) / s ∧ maxI x xs = (if (b + s - 1) / s < m then (b + s - 1) / s else m)
  near : IsS b m (packI b s m)
  far : IsS b m (sortI (spI b s m))
theorem minT_eq (x : Int) (xs : List Int) : minT [.lst ((x :: xs).map .int)] = some (.val (.int (minI x xs))) := by
  show (T.ints ((x :: xs).map .int)).bind _ = _
  rw [ints_map]
  rfl
theorem maxT_eq (x : Int) (xs : List Int) : maxT [.lst ((x :: xs).map .int)] = some (.val (.int (maxI x xs))) := by
  show (T.ints ((x :: xs).map .int)).bind _ = _
  rw [ints_map]
  rfl
theorem is20 (d : Nat) {b m : Int} {is : List Int} (h : IsS b m is) : Cl (d + 1) 20 [.val (.lst (is.map .int)), .val (.int b), .val (.int m)] = .ok (.val (.bl true)) [] := by
  obtain ⟨x0, xl, a1, a2, a3, a4⟩ := h.ends
  exact c20 d h.len h.srt h.cnt a1 a2 a3 a4
def body22 : Ss := match ir22 with
  | .cons (.for_ _ _ b) _ => b
  | _ => .nil
theorem ir22_eq : ir22 = .cons (.for_ (.var 1) (.rng (.bi .max (.cons (.int 1) (.cons (.bi .min (.cons (.bi .len (.cons (.rd 0) .nil)) (.cons (.int 4) .nil))) .nil))) .no) body22) (.cons (.ret (.bl true)) .nil) := rfl
theorem iter (cf : ∀ b s m, Sto b s m → Cf b s m) (ns : List Int) (k : Int) (hk : 0 ≤ k) (hk' : k ≤ 1000) (x2 x3 x4 x5 x6 x7 x8 x9 x10 : Option W) :
    ∃ y2 y3 y4 y5 y6 y7 y8 y9 y10, evSs (cstG cs) (Cl 7) body22 [some (.val (.scr ns)), some (.val (.int k)), x2, x3, x4, x5, x6, x7, x8, x9, x10, none, none] =
      .ok .nx [some (.val (.scr ns)), some (.val (.int k)), y2, y3, y4, y5, y6, y7, y8, y9, y10, none, none] := by
  obtain ⟨p0, p1, hp, e16⟩ := c16 6 ns k hk hk'
  obtain ⟨t1, q0, q1, a1, a2, hq, e17⟩ := c17 6 p0 p1 9 hp (by decide) (by decide)
  obtain ⟨t2, u0, u1, b1, b2, hu, f17⟩ := c17 6 q0 q1 11 hq (by decide) (by decide)
  obtain ⟨b, hb⟩ : ∃ b, 1 + t1 = b := ⟨_, rfl⟩
  obtain ⟨s, hs⟩ : ∃ s, 1 + t2 = s := ⟨_, rfl⟩
  obtain ⟨t3, v0, v1, d1, d2, hv, g17⟩ := c17 6 u0 u1 b hu (by omega) (by omega)
  obtain ⟨m, hm⟩ : ∃ m, 1 + t3 = m := ⟨_, rfl⟩
  have sto : Sto b s m := ⟨by omega, by omega, by omega, by omega, by omega, by omega⟩
  have c := cf b s m sto
  obtain ⟨wr, er, fr⟩ := c18 6 b m (by have := sto.b1; omega) sto.b2
  obtain ⟨cx, cxs, ce, cmin, cmax, cfar⟩ := c.cop
  obtain ⟨rx, rxs, re, rmin, rmax⟩ := c.reg
  obtain ⟨wn, en, fn⟩ := c14 1 sto c.fr c.bk
  have e12 := c12 0 sto c.fr c.bk
  have e13 := c13 2 sto
  have e10 := c10 2 sto
  have e11 := c11 2 sto
  have e15 := c15 2 sto c.hd c.ct
  have i20 := is20 6 c.near
  have j20 := is20 6 c.far
  have i19 := c19 6 b s (packI b s m) sto.s1 (by have := sto.s2; omega) c.near.len
  have j19 := c19 6 b s (sortI (spI b s m)) sto.s1 (by have := sto.s2; omega) c.far.len
  rw [cfar] at j19
  obtain ⟨z0, z1, hz, e21⟩ := c21 1 (p0 := v0) (p1 := v1) (rows := setsI b m) sto hv c.ne (by have := c.lt; omega) c.val
  -- the two comprehensions
  have i1 : evI (cstG cs) (Cl 7) (.e (.rd 4)) [some (.val (.scr ns)), some (.val (.int k)), some (PoolW v0 v1), some (.val (.int m)), some wr, x5, x6, some (.val (.int b)), some (.val (.int s)), x9, x10, none, none] = .ok ((setsI b m).map rowT) [some (.val (.scr ns)), some (.val (.int k)), some (PoolW v0 v1), some (.val (.int m)), some (.val (.lst ((setsI b m).map rowT))), x5, x6, some (.val (.int b)), some (.val (.int s)), x9, x10, none, none] := by
    simp [qE_int, qE_bl, qE_non, qE_str, qE_cst, qE_rd, qE_rdx, qE_op, qE_neg, qE_cmp, qE_chn, qE_one, qE_and, qE_or, qE_not, qE_ife, qE_tup, qE_lst, qE_ix, qE_sl, qE_bi, qE_isi, qE_isis, qE_call, qE_callk, qE_lenS, qE_srtS, qE_lrng3, qE_rev, qE_lrng, qSe_of, qEs_nil, qEs_cons, qO_no, qO_so, qT_v, qT_one, qT_and, qT_or, qT_not, qTs_nil, qTs_cons, qI_e, qI_rng, qA_nil, qA_cons, qA_io, qS_asg, qS_asgT, qS_par, qS_setx, qS_app, qS_expr, qS_ret, qS_retv, qS_retn, qS_ife, qS_pass, qS_never, qSs_nil, qSs_cons, R.bind, R.of, W.fz, fzs, backO, cmpT, cmpI2, cmpInt, T.tru, opT, opInt, biT, lenT, listT, tupleT, sortedT, minT, maxT, intT, sumT, allT, anyT, ints_map, bls_map, fzs_iv, eqT_int, eqT_ints, hidOk, tgIn, wipeE, backE, isiT, tyT, Ty.sub, ixT, fzs_val, -List.map_map, -List.map_append, fr]
  have l1 : lcL (.var 11) [11] (evTs (cstG cs) (Cl 7) .nil) (evE (cstG cs) (Cl 7) (.call 19 (.cons (.rd 7) (.cons (.rd 8) (.cons (.rd 11) .nil))) [])) ((setsI b m).map rowT) [] [some (.val (.scr ns)), some (.val (.int k)), some (PoolW v0 v1), some (.val (.int m)), some (.val (.lst ((setsI b m).map rowT))), x5, x6, some (.val (.int b)), some (.val (.int s)), x9, x10, none, none] =
      .ok ((setsI b m).map fun r => .val (.int (copI b s r))) [some (.val (.scr ns)), some (.val (.int k)), some (PoolW v0 v1), some (.val (.int m)), some (.val (.lst ((setsI b m).map rowT))), x5, x6, some (.val (.int b)), some (.val (.int s)), x9, x10, none, none] := by
    refine lcL_all rfl (setsI b m) (by have := c.lt; omega) (fun a _ => rfl) fun a ha => ?_
    have h := c19 6 b s a sto.s1 (by have := sto.s2; omega) (c.val a ha).len
    simp [qE_int, qE_bl, qE_non, qE_str, qE_cst, qE_rd, qE_rdx, qE_op, qE_neg, qE_cmp, qE_chn, qE_one, qE_and, qE_or, qE_not, qE_ife, qE_tup, qE_lst, qE_ix, qE_sl, qE_bi, qE_isi, qE_isis, qE_call, qE_callk, qE_lenS, qE_srtS, qE_lrng3, qE_rev, qE_lrng, qSe_of, qEs_nil, qEs_cons, qO_no, qO_so, qT_v, qT_one, qT_and, qT_or, qT_not, qTs_nil, qTs_cons, qI_e, qI_rng, qA_nil, qA_cons, qA_io, qS_asg, qS_asgT, qS_par, qS_setx, qS_app, qS_expr, qS_ret, qS_retv, qS_retn, qS_ife, qS_pass, qS_never, qSs_nil, qSs_cons, R.bind, R.of, W.fz, fzs, backO, cmpT, cmpI2, cmpInt, T.tru, opT, opInt, biT, lenT, listT, tupleT, sortedT, minT, maxT, intT, sumT, allT, anyT, ints_map, bls_map, fzs_iv, eqT_int, eqT_ints, hidOk, tgIn, wipeE, backE, isiT, tyT, Ty.sub, ixT, fzs_val, -List.map_map, -List.map_append, rowT, h]
  have k1 := ev_lc i1 rfl l1
  have ek1 : fzs ((setsI b m).map fun r => W.val (.int (copI b s r))) = (cx :: cxs).map .int := by
    rw [fzs_map, ← ce, List.map_map]
    rfl
  generalize ((setsI b m).map fun r => W.val (.int (copI b s r))) = wc at k1 ek1
  have i2 : evI (cstG cs) (Cl 7) (.e (.rd 4)) [some (.val (.scr ns)), some (.val (.int k)), some (PoolW v0 v1), some (.val (.int m)), some (.val (.lst ((setsI b m).map rowT))), some (.lst wc), x6, some (.val (.int b)), some (.val (.int s)), x9, x10, none, none] = .ok ((setsI b m).map rowT) [some (.val (.scr ns)), some (.val (.int k)), some (PoolW v0 v1), some (.val (.int m)), some (.val (.lst ((setsI b m).map rowT))), some (.lst wc), x6, some (.val (.int b)), some (.val (.int s)), x9, x10, none, none] := by
    simp [qE_int, qE_bl, qE_non, qE_str, qE_cst, qE_rd, qE_rdx, qE_op, qE_neg, qE_cmp, qE_chn, qE_one, qE_and, qE_or, qE_not, qE_ife, qE_tup, qE_lst, qE_ix, qE_sl, qE_bi, qE_isi, qE_isis, qE_call, qE_callk, qE_lenS, qE_srtS, qE_lrng3, qE_rev, qE_lrng, qSe_of, qEs_nil, qEs_cons, qO_no, qO_so, qT_v, qT_one, qT_and, qT_or, qT_not, qTs_nil, qTs_cons, qI_e, qI_rng, qA_nil, qA_cons, qA_io, qS_asg, qS_asgT, qS_par, qS_setx, qS_app, qS_expr, qS_ret, qS_retv, qS_retn, qS_ife, qS_pass, qS_never, qSs_nil, qSs_cons, R.bind, R.of, W.fz, fzs, backO, cmpT, cmpI2, cmpInt, T.tru, opT, opInt, biT, lenT, listT, tupleT, sortedT, minT, maxT, intT, sumT, allT, anyT, ints_map, bls_map, fzs_iv, eqT_int, eqT_ints, hidOk, tgIn, wipeE, backE, isiT, tyT, Ty.sub, ixT, fzs_val, -List.map_map, -List.map_append]
  have l2 : lcL (.var 11) [11] (evTs (cstG cs) (Cl 7) .nil) (evE (cstG cs) (Cl 7) (.lenS (.of (.lc [12] (.var 12) (.e (.rd 11)) .nil (.op .FloorDiv (.rd 12) (.rd 8)))))) ((setsI b m).map rowT) [] [some (.val (.scr ns)), some (.val (.int k)), some (PoolW v0 v1), some (.val (.int m)), some (.val (.lst ((setsI b m).map rowT))), some (.lst wc), x6, some (.val (.int b)), some (.val (.int s)), x9, x10, none, none] =
      .ok ((setsI b m).map fun r => .val (.int (dlI s r))) [some (.val (.scr ns)), some (.val (.int k)), some (PoolW v0 v1), some (.val (.int m)), some (.val (.lst ((setsI b m).map rowT))), some (.lst wc), x6, some (.val (.int b)), some (.val (.int s)), x9, x10, none, none] := by
    refine lcL_all rfl (setsI b m) (by have := c.lt; omega) (fun a _ => rfl) fun a ha => ?_
    have h := rg (Cl 7) s a (by have := sto.s1; omega) (by have := sto.s2; omega) (c.val a ha).len ([some (.val (.scr ns)), some (.val (.int k)), some (PoolW v0 v1), some (.val (.int m)), some (.val (.lst ((setsI b m).map rowT))), some (.lst wc), x6, some (.val (.int b)), some (.val (.int s)), x9, x10, some (.val (rowT a)), none]) 12 11 8 rfl rfl rfl (by decide) (by decide)
    rw [qE_lenS]
    show ((evSe (cstG cs) (Cl 7) (.of (.lc [12] (.var 12) (.e (.rd 11)) .nil (.op .FloorDiv (.rd 12) (.rd 8)))) [some (.val (.scr ns)), some (.val (.int k)), some (PoolW v0 v1), some (.val (.int m)), some (.val (.lst ((setsI b m).map rowT))), some (.lst wc), x6, some (.val (.int b)), some (.val (.int s)), x9, x10, some (.val (rowT a)), none]).bind _) = _
    rw [h]
    rfl
  have k2 := ev_lc i2 rfl l2
  have ek2 : fzs ((setsI b m).map fun r => W.val (.int (dlI s r))) = (rx :: rxs).map .int := by
    rw [fzs_map, ← re, List.map_map]
    rfl
  generalize ((setsI b m).map fun r => W.val (.int (dlI s r))) = wd at k2 ek2
  have mc := minT_eq cx cxs
  have xc := maxT_eq cx cxs
  have mr := minT_eq rx rxs
  have xr := maxT_eq rx rxs
  generalize (cx :: cxs).map T.int = tc at ek1 mc xc
  generalize (rx :: rxs).map T.int = td at ek2 mr xr
  refine ⟨some (PoolW z0 z1), some (.val (.int m)), some (.val (.lst ((setsI b m).map rowT))), some (.val (.lst tc)), some (.val (.lst td)), some (.val (.int b)), some (.val (.int s)), some (.val (.lst ((packI b s m).map .int))), some (.val (.lst ((sortI (spI b s m)).map .int))), ?_⟩
  simp [body22, ir22, qE_int, qE_bl, qE_non, qE_str, qE_cst, qE_rd, qE_rdx, qE_op, qE_neg, qE_cmp, qE_chn, qE_one, qE_and, qE_or, qE_not, qE_ife, qE_tup, qE_lst, qE_ix, qE_sl, qE_bi, qE_isi, qE_isis, qE_call, qE_callk, qE_lenS, qE_srtS, qE_lrng3, qE_rev, qE_lrng, qSe_of, qEs_nil, qEs_cons, qO_no, qO_so, qT_v, qT_one, qT_and, qT_or, qT_not, qTs_nil, qTs_cons, qI_e, qI_rng, qA_nil, qA_cons, qA_io, qS_asg, qS_asgT, qS_par, qS_setx, qS_app, qS_expr, qS_ret, qS_retv, qS_retn, qS_ife, qS_pass, qS_never, qSs_nil, qSs_cons, R.bind, R.of, W.fz, fzs, backO, cmpT, cmpI2, cmpInt, T.tru, opT, opInt, biT, lenT, listT, tupleT, sortedT, intT, sumT, allT, anyT, ints_map, bls_map, fzs_iv, eqT_int, eqT_ints, hidOk, tgIn, wipeE, backE, isiT, tyT, Ty.sub, ixT, fzs_val, -List.map_map, -List.map_append, tgE, e16, e17, f17, g17, hb, hs, hm, er, fr, k1, k2, ek1, ek2, mc, xc, mr, xr, e12, e13, e10, e11, cmin, cmax, rmin, rmax, en, e15, fn, i20, j20, i19, j19, e21]
end Zk69
set_option maxHeartbeats 8000000
namespace Zk69
open PySem Ev
theorem turns (cf : ∀ b s m, Sto b s m → Cf b s m) (ns : List Int) : ∀ (ks : List Int), (∀ k ∈ ks, 0 ≤ k ∧ k ≤ 1000) → ∀ x1 x2 x3 x4 x5 x6 x7 x8 x9 x10 : Option W,
    ∃ y1 y2 y3 y4 y5 y6 y7 y8 y9 y10, forL (.var 1) (evSs (cstG cs) (Cl 7) body22) (ks.map .int) [some (.val (.scr ns)), x1, x2, x3, x4, x5, x6, x7, x8, x9, x10, none, none] =
      .ok .nx [some (.val (.scr ns)), y1, y2, y3, y4, y5, y6, y7, y8, y9, y10, none, none]
  | [], _, x1, x2, x3, x4, x5, x6, x7, x8, x9, x10 => ⟨x1, x2, x3, x4, x5, x6, x7, x8, x9, x10, rfl⟩
  | k :: ks, h, x1, x2, x3, x4, x5, x6, x7, x8, x9, x10 => by
    obtain ⟨y2, y3, y4, y5, y6, y7, y8, y9, y10, e⟩ := iter cf ns k (h k List.mem_cons_self).1 (h k List.mem_cons_self).2 x2 x3 x4 x5 x6 x7 x8 x9 x10
    obtain ⟨z1, z2, z3, z4, z5, z6, z7, z8, z9, z10, e2⟩ := turns cf ns ks (fun j hj => h j (List.mem_cons_of_mem _ hj)) (some (.val (.int k))) y2 y3 y4 y5 y6 y7 y8 y9 y10
    refine ⟨z1, z2, z3, z4, z5, z6, z7, z8, z9, z10, ?_⟩
    show ((evSs (cstG cs) (Cl 7) body22 [some (.val (.scr ns)), some (.val (.int k)), x2, x3, x4, x5, x6, x7, x8, x9, x10, none, none]).bind _) = _
    rw [e]
    exact e2
theorem law_ev (cf : ∀ b s m, Sto b s m → Cf b s m) (ns : List Int) : ∃ o, Cl 8 22 [.val (.scr ns)] = .ok (.val (.bl true)) o := by
  have key : ∃ n : Int, 0 ≤ n ∧ n ≤ 4 ∧ evI (cstG cs) (Cl 7) (.rng (.bi .max (.cons (.int 1) (.cons (.bi .min (.cons (.bi .len (.cons (.rd 0) .nil)) (.cons (.int 4) .nil))) .nil))) .no) [some (.val (.scr ns)), none, none, none, none, none, none, none, none, none, none, none, none] =
      .ok ((rngI 0 n.toNat).map .int) [some (.val (.scr ns)), none, none, none, none, none, none, none, none, none, none, none, none] := by
    refine ⟨if (if (4 : Int) < ns.length then 4 else (ns.length : Int)) > 1 then (if (4 : Int) < ns.length then 4 else (ns.length : Int)) else 1, ?_, ?_, ?_⟩
    · split <;> omega
    · split
      · split <;> omega
      · omega
    · have ok : okR (if (if (4 : Int) < ns.length then 4 else (ns.length : Int)) > 1 then (if (4 : Int) < ns.length then 4 else (ns.length : Int)) else 1) = true := by
        simp only [okR, Bool.and_eq_true, decide_eq_true_eq]
        split
        · split <;> omega
        · omega
      generalize hg : (if (if (4 : Int) < ns.length then 4 else (ns.length : Int)) > 1 then (if (4 : Int) < ns.length then 4 else (ns.length : Int)) else 1) = n at ok
      have hmx : maxT [.int 1, .int (if (4 : Int) < ns.length then 4 else (ns.length : Int))] = some (.val (.int n)) := by
        rw [← hg]
        rfl
      have hmn : minT [.int ns.length, .int 4] = some (.val (.int (if (4 : Int) < ns.length then 4 else (ns.length : Int)))) := rfl
      simp [qE_int, qE_bl, qE_non, qE_str, qE_cst, qE_rd, qE_rdx, qE_op, qE_neg, qE_cmp, qE_chn, qE_one, qE_and, qE_or, qE_not, qE_ife, qE_tup, qE_lst, qE_ix, qE_sl, qE_bi, qE_isi, qE_isis, qE_call, qE_callk, qE_lenS, qE_srtS, qE_lrng3, qE_rev, qE_lrng, qSe_of, qEs_nil, qEs_cons, qO_no, qO_so, qT_v, qT_one, qT_and, qT_or, qT_not, qTs_nil, qTs_cons, qI_e, qI_rng, qA_nil, qA_cons, qA_io, qS_asg, qS_asgT, qS_par, qS_setx, qS_app, qS_expr, qS_ret, qS_retv, qS_retn, qS_ife, qS_pass, qS_never, qSs_nil, qSs_cons, R.bind, R.of, W.fz, fzs, backO, cmpT, cmpI2, cmpInt, T.tru, opT, opInt, biT, lenT, listT, tupleT, sortedT, intT, sumT, allT, anyT, ints_map, bls_map, fzs_iv, eqT_int, eqT_ints, hidOk, tgIn, wipeE, backE, isiT, tyT, Ty.sub, ixT, fzs_val, -List.map_map, -List.map_append, hmn, hmx, rngT, ok]
  obtain ⟨n, n0, n4, i0⟩ := key
  obtain ⟨y1, y2, y3, y4, y5, y6, y7, y8, y9, y10, e⟩ := turns cf ns (rngI 0 n.toNat) (fun k hk => by
    obtain ⟨j, hj, e⟩ := List.mem_iff_getElem.mp hk
    have hj' : j < n.toNat := by rw [rngI_len] at hj; exact hj
    have := rngI_get n.toNat 0 j hj'
    rw [List.getElem?_eq_getElem hj] at this
    have e3 := Option.some.inj this
    rw [e] at e3
    omega) none none none none none none none none none none
  have f0 := ev_for i0 e
  refine ⟨_, call_rt (fd := fd22) rfl rfl (show evSs (cstG cs) (Cl 7) ir22 [some (.val (.scr ns)), none, none, none, none, none, none, none, none, none, none, none, none] = .ok (.rt (.val (.bl true))) [some (.val (.scr ns)), y1, y2, y3, y4, y5, y6, y7, y8, y9, y10, none, none] from ?_)⟩
  rw [ir22_eq, qSs_cons, f0]
  rfl
end Zk69
set_option maxHeartbeats 8000000
namespace Zk69
open PySem Ev
def valB (b : Int) (is : List Int) : Bool := decide (is.length < 64) && is.all (fun i => decide (0 ≤ i) && decide (i ≤ b - 1)) && decide ((dedI [] is).length = is.length)
theorem valB_of {b : Int} {is : List Int} (h : valB b is = true) : Val b is := by
  unfold valB at h
  simp only [Bool.and_eq_true, decide_eq_true_eq, List.all_eq_true] at h
  exact ⟨h.1.1, fun i hi => h.1.2 i hi, h.2⟩
def isB (b m : Int) (is : List Int) : Bool := decide (is.length < 64) && decide (sortI (dedI [] is) = is) && decide ((is.length : Int) = m) && (match L2.atI is 0, L2.atI is (-1) with
  | some x, some y => decide (0 ≤ x) && decide (y < b)
  | _, _ => false)
theorem isB_of {b m : Int} {is : List Int} (h : isB b m is = true) : IsS b m is := by
  unfold isB at h
  simp only [Bool.and_eq_true, decide_eq_true_eq] at h
  obtain ⟨⟨⟨h1, h2⟩, h3⟩, h4⟩ := h
  refine ⟨h1, h2, h3, ?_⟩
  cases e1 : L2.atI is 0 with
  | none => rw [e1] at h4; cases h4
  | some x =>
    cases e2 : L2.atI is (-1) with
    | none => rw [e1, e2] at h4; cases h4
    | some y =>
      rw [e1, e2] at h4
      have h5 : (decide (0 ≤ x) && decide (y < b)) = true := h4
      simp only [Bool.and_eq_true, decide_eq_true_eq] at h5
      exact ⟨x, y, rfl, h5.1, rfl, h5.2⟩
def chkR (b s m : Int) (rows : List (List Int)) : Bool := (match rows.map (copI b s) with
  | x :: xs => decide (minI x xs = copI b s (packI b s m)) && decide (maxI x xs = (if b < m * s then b else m * s))
  | [] => false) && (match rows.map (dlI s) with
  | x :: xs => decide (minI x xs = (m + s - 1) / s) && decide (maxI x xs = (if (b + s - 1) / s < m then (b + s - 1) / s else m))
  | [] => false)
def chkS (b s m : Int) (rows : List (List Int)) : Bool := chkR b s m rows && valB b (bkI b s m) && decide ((hdI b s m).length ≤ 1000) && decide ((cutI (rsI b s) none (some (m - ((hdI b s m).length : Int)))).length ≤ 1000) &&
  decide (copI b s (sortI (spI b s m)) = (if b < m * s then b else m * s)) && isB b m (packI b s m) && isB b m (sortI (spI b s m))
def chkM (b m : Int) (rows : List (List Int)) : Bool := decide (0 < rows.length) && decide (rows.length < 4000) && rows.all (valB b) && valB b (frI m) && (rngI 1 11).all fun s => chkS b s m rows
theorem all_chk : ((rngI 1 9).all fun b => (rngI 1 b.toNat).all fun m => chkM b m (setsI b m)) = true := by decide +kernel
theorem mem_rng {a k : Int} {n : Nat} (h1 : a ≤ k) (h2 : k < a + n) : k ∈ rngI a n := by
  have hj : (k - a).toNat < n := by omega
  have := rngI_get n a (k - a).toNat hj
  have e : a + ((k - a).toNat : Int) = k := by omega
  rw [e] at this
  exact List.mem_of_getElem? this
theorem cf (b s m : Int) (h : Sto b s m) : Cf b s m := by
  obtain ⟨h1, h2, h3, h4, h5, h6⟩ := h
  have a1 := List.all_eq_true.mp (List.all_eq_true.mp all_chk b (mem_rng h1 (by omega))) m (mem_rng h5 (by omega))
  unfold chkM at a1
  simp only [Bool.and_eq_true, decide_eq_true_eq] at a1
  obtain ⟨⟨⟨⟨b1, b2⟩, b3⟩, b4⟩, b5⟩ := a1
  have c1 := List.all_eq_true.mp b5 s (mem_rng h3 (by omega))
  unfold chkS at c1
  simp only [Bool.and_eq_true, decide_eq_true_eq] at c1
  obtain ⟨⟨⟨⟨⟨⟨d1, d2⟩, d3⟩, d4⟩, d5⟩, d6⟩, d7⟩ := c1
  unfold chkR at d1
  rw [Bool.and_eq_true] at d1
  obtain ⟨r1, r2⟩ := d1
  refine ⟨b1, b2, fun r hr => valB_of (List.all_eq_true.mp b3 r hr), valB_of b4, valB_of d2, d3, d4, ?_, ?_, isB_of d6, isB_of d7⟩
  · cases e : (setsI b m).map (copI b s) with
    | nil => rw [e] at r1; cases r1
    | cons x xs =>
      rw [e] at r1
      have r3 : (decide (minI x xs = copI b s (packI b s m)) && decide (maxI x xs = (if b < m * s then b else m * s))) = true := r1
      rw [Bool.and_eq_true] at r3
      exact ⟨x, xs, rfl, of_decide_eq_true r3.1, of_decide_eq_true r3.2, d5⟩
  · cases e : (setsI b m).map (dlI s) with
    | nil => rw [e] at r2; cases r2
    | cons x xs =>
      rw [e] at r2
      have r3 : (decide (minI x xs = (m + s - 1) / s) && decide (maxI x xs = (if (b + s - 1) / s < m then (b + s - 1) / s else m))) = true := r2
      rw [Bool.and_eq_true] at r3
      exact ⟨x, xs, rfl, of_decide_eq_true r3.1, of_decide_eq_true r3.2⟩
theorem holds : PySem.Challenge.rw_markedregions_k69_whole_sizes_by_all_set.Holds := law_of (law_ev cf)
end Zk69
theorem PySem.Challenge.cw_markedregions_k69_whole_sizes_by_all_set_holds : PySem.Challenge.rw_markedregions_k69_whole_sizes_by_all_set.Holds := by
  exact Zk69.holds
