import PyProof.Rows.All
import Wide.All
import OpenK.AllK
import Wide.FinOn
import HandS.ForMost
import HandS.HeadHook2
import HandS.IsInst
import HandS.Conv
import HandS.Defaults
import HandS.Exc
import HandS.Style
import HandS.Small
import HandS.ExcOwn
import HandS.CallSlots
import HandS.WordsExc
import HandS.SetBool
import HandS.SetFor
import HandS.SetKeys
import HandS.Strs
import HandS.Set
import PyProof.Rows.SortShellAny
import HandS.More
import HandS.Star
import HandS.SortInts
import HandS.Iter
import HandS.ListItems
import HandS.Property
import HandS.ClsMeth
import HandS.MakeKwOnly
import HandS.SlotsOwn
import HandS.OwnEq
import HandS.HeadHook3
import KE.KDictWalk
import KE.KDictCopyH
import HandS.HeadNt
import HandS.Head0
import HandS.Head1
import HandS.Head2
import HandS.HeadEnd
import HandS.HeadHook1
import KE.KStateDown
import PySem.Challenge.RW_markedregions_k04_rules_told
set_option Elab.async false
set_option linter.all false
set_option maxRecDepth 100000
set_option maxHeartbeats 0
/-! Ev0: a small evaluator over trees: values, expressions, statements. -/
namespace Ev
open PySem L2

/-! ### values -/
/-- what a mutable node is: a dict by its keys, an instance by its class and fields -/
inductive Nd where
  | dct (ks : List Key) | dcl (ks : List Key) | ins (c : Str) (fs : List Str)
inductive T where
  | non | bl (b : Bool) | int (i : Int) | str (x : Str) | ty (n : String) | gl (g : Nat)
  | tup (xs : List T) | lst (xs : List T) | nd (n : Nd) (xs : List T) | set (xs : List T) | scr (is : List Int)
/-- an owned value: frozen leaves below mutable nodes that nobody else names -/
inductive W where
  | val (t : T) | lst (ws : List W) | nd (n : Nd) (ws : List W) | set (ts : List T)
mutual
def W.fz : W → T
  | .val t => t
  | .lst ws => .lst (fzs ws)
  | .nd n ws => .nd n (fzs ws)
  | .set ts => .set ts
def fzs : List W → List T
  | [] => []
  | w :: r => w.fz :: fzs r
end
abbrev Env := List (Option W)
inductive R (α : Type) where
  | ok (a : α) (env : Env) | exc (c : Nat) (t : T) (env : Env) | no
def R.bind {α β : Type} (r : R α) (k : α → Env → R β) : R β := match r with
  | .ok a env => k a env
  | .exc c t env => .exc c t env
  | .no => .no
def R.of {α : Type} (o : Option α) (env : Env) : R α := match o with
  | some a => .ok a env
  | none => .no
inductive F where
  | nx | rt (w : W) | bk | ct
inductive CR where
  | ok (w : W) (outs : List (Option W)) | exc (c : Nat) (t : T) (outs : List (Option W)) | no
abbrev Calls := Nat → List W → CR

/-! ### operations on trees -/
mutual
def T.pd : T → Option PyData
  | .non => some .none
  | .bl b => some (.bool b)
  | .int i => some (.int i)
  | .str x => some (.str x)
  | .tup xs => (pds xs).map .tuple
  | .lst xs => (pds xs).map .list
  | .ty _ => none
  | .gl _ => none
  | .nd _ _ => none
  | .set _ => none
  | .scr _ => none
def pds : List T → Option (List PyData)
  | [] => some []
  | t :: r => match t.pd, pds r with
    | some d, some ds => some (d :: ds)
    | _, _ => none
end
def eqT (a b : T) : Option Bool := match a.pd, b.pd with
  | some x, some y => if SeqAt.shaped x && SeqAt.shaped y then some (PyData.eqv x y) else none
  | _, _ => none
/-- the keys of a dict -/
def Nd.keys : Nd → Option (List Key)
  | .dct ks => some ks
  | .dcl ks => some ks
  | .ins _ _ => none
def keyT : T → Option Key
  | .int i => some (.inl i)
  | .str x => some (.inr x)
  | _ => none
def tKey : Key → T
  | .inl i => .int i
  | .inr x => .str x
/-- the item of a name -/
def getN {κ α : Type} [DecidableEq κ] : List κ → List α → κ → Option α
  | k :: ks, x :: xs, j => if k = j then some x else getN ks xs j
  | _, _, _ => none
def putN {κ : Type} [DecidableEq κ] : List κ → κ → List κ
  | [], j => [j]
  | k :: ks, j => if k = j then k :: ks else k :: putN ks j
def putV {κ α : Type} [DecidableEq κ] : List κ → List α → κ → α → List α
  | k :: ks, x :: xs, j, v => if k = j then v :: xs else x :: putV ks xs j v
  | _, _, _, v => [v]
/-- x in a row -/
def inT (a : T) (xs : List T) : Option Bool := match a.pd, pds xs with
  | some d, some ds => if SeqAt.shaped d && (SeqAt.shaped (.list ds) && decide (d.depth ≤ 60)) then some (ds.any fun z => PyData.eqv z d) else none
  | _, _ => none
def inAny (a b : T) : Option Bool := match b with
  | .lst xs => inT a xs
  | .tup xs => inT a xs
  | .nd n _ => n.keys.bind fun ks => (keyT a).map fun k => ks.any fun j => decide (j = k)
  | _ => none
def mulOk (i j : Int) : Bool := (decide (-18446744073709551616 < i) && decide (i < 18446744073709551616)) || (decide (-18446744073709551616 < j) && decide (j < 18446744073709551616))
def opInt : Operator → Int → Int → Option Int
  | .Add, i, j => some (i + j)
  | .Sub, i, j => some (i - j)
  | .Mult, i, j => if mulOk i j then some (i * j) else none
  | .FloorDiv, i, j => if decide (0 < j) && decide (j < 1073741824) then some (i / j) else none
  | .Mod, i, j => if decide (0 < j) then some (i % j) else none
  | .Pow, i, j => if decide (0 ≤ j) && decide (j ≤ 1000000) && decide (i.natAbs < 18446744073709551616) then some (i ^ j.toNat) else none
  | _, _, _ => none
def repT (xs : List T) (k : Int) : Option W := if decide (-8388608 ≤ k) && (decide (k ≤ 8388608) && decide (xs.length * k.toNat ≤ 16777216)) then some (.lst ((List.replicate k.toNat xs).flatten.map .val)) else none
def opT (o : Operator) (a b : T) : Option W := match a, b with
  | .int i, .int j => (opInt o i j).map fun k => .val (.int k)
  | .lst xs, .int k => (match o with
    | .Mult => repT xs k
    | _ => none)
  | .lst xs, .lst ys => (match o with
    | .Add => if decide (xs.length + ys.length ≤ 16777216) then some (.lst ((xs ++ ys).map .val)) else none
    | _ => none)
  | _, _ => none
def cmpInt : CmpOp → Int → Int → Option Bool
  | .Lt, i, j => some (decide (i < j))
  | .LtE, i, j => some (decide (i ≤ j))
  | .Gt, i, j => some (decide (j < i))
  | .GtE, i, j => some (decide (j ≤ i))
  | _, _, _ => none
def cmpI2 (o : CmpOp) : T → T → Option Bool
  | .int i, .int j => cmpInt o i j
  | _, _ => none
def T.isN : T → Bool
  | .non => true
  | _ => false
def cmpT (o : CmpOp) (a b : T) : Option Bool := match o with
  | .Eq => eqT a b
  | .NotEq => (eqT a b).map (!·)
  | .Is => if b.isN then some a.isN else none
  | .IsNot => if b.isN then some (!a.isN) else none
  | .In => inAny a b
  | .NotIn => (inAny a b).map (!·)
  | o => cmpI2 o a b
def T.tru : T → Option Bool
  | .non => some false
  | .bl b => some b
  | .int i => some (i != 0)
  | .lst xs => some (!xs.isEmpty)
  | .tup xs => some (!xs.isEmpty)
  | _ => none
def T.ints : List T → Option (List Int)
  | [] => some []
  | .int i :: r => (T.ints r).map (i :: ·)
  | _ :: _ => none
def T.bls : List T → Option (List Bool)
  | [] => some []
  | .bl b :: r => (T.bls r).map (b :: ·)
  | _ :: _ => none
def insI (i : Int) : List Int → List Int
  | [] => [i]
  | j :: r => if i ≤ j then i :: j :: r else j :: insI i r
def sortI : List Int → List Int
  | [] => []
  | i :: r => insI i (sortI r)
def maxI : Int → List Int → Int
  | m, [] => m
  | m, i :: r => maxI (if m < i then i else m) r
def minI : Int → List Int → Int
  | m, [] => m
  | m, i :: r => minI (if i < m then i else m) r
def sumI : List Int → Int
  | [] => 0
  | i :: r => i + sumI r
/-- the members of a set of ints, each once -/
def addI (acc : List Int) (i : Int) : List Int := if acc.contains i then acc else acc ++ [i]
def dedI (acc : List Int) : List Int → List Int
  | [] => acc
  | i :: r => dedI (addI acc i) r
inductive Bi where
  | len | list | tuple | sorted | min | max | int | sum | all | any | dict
  deriving DecidableEq
def lenT : List T → Option W
  | [.lst xs] => some (.val (.int xs.length))
  | [.tup xs] => some (.val (.int xs.length))
  | [.scr is] => some (.val (.int is.length))
  | [.str x] => if decide (x.length ≤ 16777216) then some (.val (.int x.length)) else none
  | _ => none
def listT : List T → Option W
  | [.lst xs] => some (.lst (xs.map .val))
  | [.tup xs] => some (.lst (xs.map .val))
  | [.nd n _] => n.keys.bind fun ks => if decide (ks.length ≤ 16777216) then some (.lst (ks.map fun k => .val (tKey k))) else none
  | _ => none
def tupleT : List T → Option W
  | [.lst xs] => some (.val (.tup xs))
  | [.tup xs] => some (.val (.tup xs))
  | _ => none
def T.strs : List T → Option (List Str)
  | [] => some []
  | .str x :: r => (T.strs r).map (x :: ·)
  | _ :: _ => none
/-- texts by their signs -/
def leS (a b : Str) : Bool := !PySem.Spec.ltCps b.cps.toList a.cps.toList
def insS (x : Str) : List Str → List Str
  | [] => [x]
  | y :: r => if leS x y then x :: y :: r else y :: insS x r
def sortS : List Str → List Str
  | [] => []
  | x :: r => insS x (sortS r)
def sortL (xs : List T) : Option W := match T.ints xs with
  | some is => some (.lst ((sortI is).map fun i => .val (.int i)))
  | none => (T.strs xs).map fun ss => .lst ((sortS ss).map fun x => .val (.str x))
def sortedT : List T → Option W
  | [.lst xs] => sortL xs
  | [.tup xs] => sortL xs
  | _ => none
def addS (acc : List Str) (x : Str) : List Str := if acc.any fun y => decide (y = x) then acc else acc ++ [x]
/-- pairs of a key and a value -/
def T.prs : List T → Option (List Key × List T)
  | [] => some ([], [])
  | .tup [k, v] :: r => (keyT k).bind fun j => (T.prs r).map fun p => (j :: p.1, v :: p.2)
  | _ :: _ => none
/-- a key and a value put in, one by one -/
def mergeD : List Key → List T → List Key → List T → List Key × List T
  | ks, ts, j :: js, v :: vs => mergeD (putN ks j) (putV ks ts j v) js vs
  | ks, ts, _, _ => (ks, ts)
def dictT : List T → Option W
  | [.nd n ts] => n.keys.map fun ks => .nd (.dct ks) (ts.map .val)
  | [.lst xs] => (T.prs xs).map fun p => .nd (.dct (mergeD [] [] p.1 p.2).1) ((mergeD [] [] p.1 p.2).2.map .val)
  | _ => none
def minT : List T → Option W
  | [.int i, .int j] => some (.val (.int (if j < i then j else i)))
  | [.lst xs] => (T.ints xs).bind fun is => match is with
    | i :: r => some (.val (.int (minI i r)))
    | [] => none
  | _ => none
def maxT : List T → Option W
  | [.int i, .int j] => some (.val (.int (if j > i then j else i)))
  | [.lst xs] => (T.ints xs).bind fun is => match is with
    | i :: r => some (.val (.int (maxI i r)))
    | [] => none
  | _ => none
def intT : List T → Option W
  | [.int i] => some (.val (.int i))
  | [.bl b] => some (.val (.int (if b then 1 else 0)))
  | _ => none
def sumT : List T → Option W
  | [.lst xs] => (T.ints xs).map fun is => .val (.int (sumI is))
  | _ => none
def allT : List T → Option W
  | [.lst xs] => (T.bls xs).map fun bs => .val (.bl (bs.all id))
  | _ => none
def anyT : List T → Option W
  | [.lst xs] => (T.bls xs).map fun bs => .val (.bl (bs.any id))
  | _ => none
def biT : Bi → List T → Option W
  | .len => lenT
  | .list => listT
  | .tuple => tupleT
  | .sorted => sortedT
  | .min => minT
  | .max => maxT
  | .int => intT
  | .sum => sumT
  | .all => allT
  | .any => anyT
  | .dict => dictT
def ixT (a i : T) : Option T := match a, i with
  | .lst xs, .int i => atI xs i
  | .tup xs, .int i => atI xs i
  | .scr is, .int i => (atI is i).map .int
  | .nd n ts, k => n.keys.bind fun ks => (keyT k).bind (getN ks ts)
  | _, _ => none
/-- the type of a tree, for isinstance -/
inductive Ty where
  | int | bool | str | non | list | tuple | dict
  deriving DecidableEq
def tyT : T → Option Ty
  | .int _ => some .int
  | .bl _ => some .bool
  | .str _ => some .str
  | .non => some .non
  | .lst _ => some .list
  | .tup _ => some .tuple
  | .nd n _ => if n.keys.isSome then some .dict else none
  | _ => none
def Ty.sub : Ty → Ty → Bool
  | .bool, .int => true
  | a, b => decide (a = b)
def isiT (cs : List Ty) (t : T) : Option Bool := (tyT t).map fun y => cs.any y.sub
def cutT (xs : List T) (lo hi : Option Int) : List T := (xs.drop (HT.sIx xs.length 0 lo)).take (HT.sIx xs.length xs.length hi - HT.sIx xs.length 0 lo)
def slT (a : T) (lo hi : Option Int) : Option W := match a with
  | .lst xs => some (.lst ((cutT xs lo hi).map .val))
  | _ => none

/-- where a parameter's value comes from: a position, a keyword, a default -/
inductive Ar where
  | p (i : Nat) | k (i : Nat) | d (j : Nat) (t : T)
def arr (ts us : List T) : List Ar → Option (List T)
  | [] => some []
  | .p i :: r => (ts[i]?).bind fun t => (arr ts us r).map (t :: ·)
  | .k i :: r => (us[i]?).bind fun t => (arr ts us r).map (t :: ·)
  | .d _ t :: r => (arr ts us r).map (t :: ·)
/-- the keys of a dict are just these names -/
def isKw : List Str → List Key → Bool
  | [], [] => true
  | x :: r, k :: ks => decide (k = .inr x) && isKw r ks
  | _, _ => false
/-- dicts side by side -/
def hitsT (ks' : List Key) (ts' : List T) : List Key → List T → Option Bool
  | k :: ks, t :: ts => (match getN ks' ts' k with
    | none => some false
    | some u => (eqT t u).bind fun e => (hitsT ks' ts' ks ts).map (e && ·))
  | _, _ => some true
def deqT : T → T → Option Bool
  | .nd n ts, .nd n' ts' => n.keys.bind fun ks => n'.keys.bind fun ks' => if ks.length = ks'.length then hitsT ks' ts' ks ts else some false
  | _, _ => none
def isIns (c m : Str) : T → Bool
  | .nd (.ins c' fs) _ => decide (c' = c) && !fs.contains m
  | _ => false
def isOf (c : Str) : T → Bool
  | .nd (.ins c' _) _ => decide (c' = c)
  | _ => false
def fldT (c f : Str) : T → Option T
  | .nd (.ins c' fs) ts => if c' = c then getN fs ts f else none
  | _ => none
def iscT (c : Str) (cs : List Str) : T → Option Bool
  | .nd (.ins c' _) _ => if cs.contains c' then some (decide (c' = c)) else none
  | .scr _ => none
  | .set _ => none
  | .ty _ => none
  | .gl _ => none
  | _ => some false
def itemsT : T → Option W
  | .nd (.dct ks) ts => some (.lst ((ks.zip ts).map fun p => .val (.tup [tKey p.1, p.2])))
  | _ => none

/-! ### the language -/
mutual
inductive E where
  | int (i : Int) | bl (b : Bool) | non | str (x : Str)
  | cst (g : Nat)
  | rd (i : Nat)
  | rdx (i : Nat) (e : E)
  | op (o : Operator) (a b : E) | neg (a : E)
  | cmp (o : CmpOp) (a b : E) | chn (o o' : CmpOp) (a b c : E)
  | one (a : E) | and (a b : E) | or (a b : E) | not (a : E) | ife (c : Tt) (a b : E)
  | tup (es : Es) | lst (es : Es)
  | ix (a i : E) | sl (a : E) (lo hi : Eo)
  | bi (b : Bi) (es : Es)
  | isi (a : E) (c : Ty) | isis (a : E) (cs : List Ty)
  | call (f : Nat) (as : As) (ds : List T)
  | callk (f : Nat) (as : As) (ks : As)
  | lc (own : List Nat) (tg : Tg) (it : It) (cs : Tts) (e : E)
  | lenS (s : Se) | srtS (s : Se)
  | lrng (a : E) (b : Eo) | lrng3 (a b c : E)
  | rev (a : E)
  | alt (a b : E)
  | fld (c f : Str) (a : E)
  | fldv (c f : Str) (i : Nat)
  | meth (c m : Str) (f : Nat) (a : E) (as : As) (ds : List T)
  | methv (c m : Str) (f : Nat) (i : Nat) (as : As) (ds : List T)
  | prop (c : Str) (f : Nat) (a : E)
  | new (c : Str) (f : Nat) (es ks : Es) (ar : List Ar)
  | newst (c : Str) (f : Nat) (e : E)
  | newdd (c : Str) (f : Nat) (es : Es) (e : E) (ks : List Str) (ar : List Ar)
  | deq (a b : E)
  | callw (f : Nat) (es ks : Es) (ar : List Ar)
  | own (c : Str) (f : Nat) (a b : E)
  | ownE (c : Str) (cs : List Str) (f : Nat) (a b : E)
  | ownB (c : Str) (f : Nat) (a b : E)
  | ownN (c : Str) (f : Nat) (a b : E)
  | ownI (c : Str) (f : Nat) (a b : E)
  | isc (c : Str) (cs : List Str) (a : E)
  | dct (ks : List Key) (es : Es)
  | items (a : E)
  | kin (g : Nat) (a : E) | kget (g : Nat) (a : E) | klist (g : Nat)
  | lc2 (own own2 : List Nat) (tg : Tg) (it : It) (tg2 : Tg) (it2 : It) (e : E)
  | srtX (own : List Nat) (tg : Tg) (it : It) (cs : Tts) (e : E)
  | popv (i : Nat) (e : E)
  | lenv (i : Nat) | cmpv (o : CmpOp) (i : Nat) (b : E)
inductive Se where
  | sc (own : List Nat) (tg : Tg) (it : It) (cs : Tts) (e : E)
  | of (e : E)
inductive Es where
  | nil | cons (e : E) (es : Es)
inductive Eo where
  | no | so (e : E)
inductive Tt where
  | v (e : E) | one (a : Tt) | and (a b : Tt) | or (a b : Tt) | not (a : Tt)
inductive Tts where
  | nil | cons (c : Tt) (cs : Tts)
inductive Tg where
  | var (i : Nat) | tup (is : List Nat)
inductive It where
  | e (e : E) | rng (a : E) (b : Eo) | keys (e : E) | keysv (i : Nat) | kk (g : Nat) | enum (e : E) | zip (a b : E)
inductive As where
  | nil | cons (e : E) (as : As) | io (i : Nat) (as : As)
end
mutual
inductive S where
  | asg (i : Nat) (e : E) | asgT (is : List Nat) (e : E) | par (is : List Nat) (es : Es)
  | setx (i : Nat) (k e : E)
  | app (i : Nat) (e : E)
  | expr (e : E)
  | ret (e : E) | retv (i : Nat) | retn
  | ife (c : Tt) (a b : Ss)
  | for_ (tg : Tg) (it : It) (b : Ss)
  | whl (n : Nat) (c : Tt) (b : Ss)
  | setf (c f : Str) (i : Nat) (e : E)
  | appx (i : Nat) (k e : E)
  | clrt (e : E)
  | pass | never
inductive Ss where
  | nil | cons (s : S) (ss : Ss)
end

/-! ### the evaluator -/
def wipeE (env : Env) : List Nat → Env
  | [] => env
  | i :: r => (wipeE env r).set i none
/-- the slots of own names hold nothing that is owned -/
def hidOk (env : Env) (own : List Nat) : Bool := own.all fun i => match env[i]? with
  | some (some (.val _)) => true
  | some none => true
  | _ => false
/-- the slots of own names as they were -/
def backE (old env : Env) : List Nat → Env
  | [] => env
  | i :: r => (backE old env r).set i ((old[i]?).getD none)
def tgE : Tg → T → Env → Option Env
  | .var i, t, env => if i < env.length then some (env.set i (some (.val t))) else none
  | .tup is, .tup ts, env => if is.length = ts.length then some ((is.zip ts).foldl (fun e p => e.set p.1 (some (.val p.2))) env) else none
  | .tup _, _, _ => none
def tgIn : Tg → List Nat → Bool
  | .var i, own => own.contains i
  | .tup is, own => is.all own.contains
/-- the loop of a comprehension -/
def lcL (tg : Tg) (own : List Nat) (test : Env → R Bool) (elt : Env → R W) : List T → List W → Env → R (List W)
  | [], acc, env => .ok acc env
  | t :: r, acc, env => match tgE tg t env with
    | none => .no
    | some env1 => (test env1).bind fun b env2 => match b with
      | true => (elt env2).bind fun w env3 => if decide (acc.length < 16777216) && hidOk env3 own then lcL tg own test elt r (acc ++ [w]) (wipeE env3 own) else .no
      | false => if hidOk env2 own then lcL tg own test elt r acc (wipeE env2 own) else .no
/-- the loop of a set comprehension -/
def scL (tg : Tg) (own : List Nat) (test : Env → R Bool) (elt : Env → R W) : List T → List Int → Env → R (List Int)
  | [], acc, env => .ok acc env
  | t :: r, acc, env => match tgE tg t env with
    | none => .no
    | some env1 => (test env1).bind fun b env2 => match b with
      | true => (elt env2).bind fun w env3 => match w.fz with
        | .int k => if decide (acc.length < 4095) && hidOk env3 own then scL tg own test elt r (addI acc k) (wipeE env3 own) else .no
        | _ => .no
      | false => if hidOk env2 own then scL tg own test elt r acc (wipeE env2 own) else .no
def forL (tg : Tg) (body : Env → R F) : List T → Env → R F
  | [], env => .ok .nx env
  | t :: r, env => match tgE tg t env with
    | none => .no
    | some env1 => (body env1).bind fun f env2 => match f with
      | .nx => forL tg body r env2
      | .ct => forL tg body r env2
      | .bk => .ok .nx env2
      | .rt w => .ok (.rt w) env2
/-- the loop of two clauses -/
def lc2L (tg : Tg) (own : List Nat) (inner : List W → Env → R (List W)) : List T → List W → Env → R (List W)
  | [], acc, env => .ok acc env
  | t :: r, acc, env => match tgE tg t env with
    | none => .no
    | some env1 => (inner acc env1).bind fun acc2 env2 => if hidOk env2 own then lc2L tg own inner r acc2 (wipeE env2 own) else .no
/-- the loop of a set comprehension of texts -/
def sxL (tg : Tg) (own : List Nat) (test : Env → R Bool) (elt : Env → R W) : List T → List Str → Env → R (List Str)
  | [], acc, env => .ok acc env
  | t :: r, acc, env => match tgE tg t env with
    | none => .no
    | some env1 => (test env1).bind fun b env2 => match b with
      | true => (elt env2).bind fun w env3 => match w.fz with
        | .str k => if decide (acc.length < 4095) && hidOk env3 own then sxL tg own test elt r (addS acc k) (wipeE env3 own) else .no
        | _ => .no
      | false => if hidOk env2 own then sxL tg own test elt r acc (wipeE env2 own) else .no
def whlL (test : Env → R Bool) (body : Env → R F) : Nat → Env → R F
  | 0, _ => .no
  | n + 1, env => (test env).bind fun b env1 => match b with
    | false => .ok .nx env1
    | true => (body env1).bind fun f env2 => match f with
      | .nx => whlL test body n env2
      | .ct => whlL test body n env2
      | .bk => .ok .nx env2
      | .rt w => .ok (.rt w) env2
def rngI (a : Int) : Nat → List Int
  | 0 => []
  | n + 1 => a :: rngI (a + 1) n
def okR (n : Int) : Bool := decide (-8388608 ≤ n) && decide (n ≤ 8388608)
def rngT : T → Option Int → Option (List Int)
  | .int n, none => if okR n then some (rngI 0 n.toNat) else none
  | .int m, some n => if okR m && okR n then some (rngI m (n - m).toNat) else none
  | _, _ => none
/-- list(range(a, b, c)) -/
def stepI (a c : Int) : Nat → List Int
  | 0 => []
  | n + 1 => a :: stepI (a + c) c n
def rng3T : T → T → T → Option (List Int)
  | .int a, .int b, .int c => if okR a && okR b && decide (0 < c) && decide (c ≤ 16777216) then some (stepI a c ((b - a + c - 1) / c).toNat) else none
  | _, _, _ => none
def revT : T → Option W
  | .lst xs => some (.lst (xs.reverse.map .val))
  | _ => none
def outE (env : Env) (is : List Nat) : List (Option W) := is.map fun i => (env[i]?).getD none
/-- the outs are written back into the callers' slots -/
def backO : List Nat → List (Option W) → Env → Env
  | i :: is, o :: os, env => backO is os (env.set i o)
  | _, _, env => env


/-- what a call gives -/
def callR (slots : List Nat) (r : CR) (env : Env) : R W := match r with
  | .ok w outs => .ok w (backO slots outs env)
  | .exc c t outs => .exc c t (backO slots outs env)
  | .no => .no
/-- what a making gives: the instance that __init__ hands out -/
def newR (r : CR) (env : Env) : R W := match r with
  | .ok (.val .non) [some w] => .ok w env
  | .exc c t _ => .exc c t env
  | _ => .no
def kdct : T → Option (List Key × List T)
  | .nd n ts => n.keys.map fun ks => (ks, ts)
  | _ => none
section
variable (G : Nat → Option T) (C : Calls)
mutual
def evE : E → Env → R W
  | .int i, env => .ok (.val (.int i)) env
  | .bl b, env => .ok (.val (.bl b)) env
  | .non, env => .ok (.val .non) env
  | .str x, env => .ok (.val (.str x)) env
  | .cst g, env => R.of ((G g).map .val) env
  | .rd i, env => (match env[i]? with
    | some (some w) => .ok (.val w.fz) (env.set i (some (.val w.fz)))
    | _ => .no)
  | .rdx i e, env => (match env[i]? with
    | some (some _) => (evE e env).bind fun k env1 => (match env1[i]? with
      | some (some (.val a)) => R.of ((ixT a k.fz).map .val) env1
      | some (some (.lst ws)) => (match k.fz with
        | .int j => (match atI ws j with
          | some (.val t) => .ok (.val t) env1
          | _ => .no)
        | _ => .no)
      | some (some (.nd (.dct ks) ws)) => (match (keyT k.fz).bind (getN ks ws) with
        | some (.val t) => .ok (.val t) env1
        | _ => .no)
      | _ => .no)
    | _ => .no)
  | .op o a b, env => (evE a env).bind fun x env1 => (evE b env1).bind fun y env2 => R.of (opT o x.fz y.fz) env2
  | .neg a, env => (evE a env).bind fun x env1 => (match x.fz with
    | .int i => .ok (.val (.int (-i))) env1
    | _ => .no)
  | .cmp o a b, env => (evE a env).bind fun x env1 => (evE b env1).bind fun y env2 => R.of ((cmpT o x.fz y.fz).map fun b => .val (.bl b)) env2
  | .chn o o' a b c, env => (evE a env).bind fun x env1 => (evE b env1).bind fun y env2 => (match cmpT o x.fz y.fz with
    | some true => (evE c env2).bind fun z env3 => R.of ((cmpT o' y.fz z.fz).map fun b => .val (.bl b)) env3
    | some false => .ok (.val (.bl false)) env2
    | none => .no)
  | .one a, env => evE a env
  | .and a b, env => (evE a env).bind fun x env1 => (match x.fz with
    | .bl true => evE b env1
    | .bl false => .ok (.val (.bl false)) env1
    | _ => .no)
  | .or a b, env => (evE a env).bind fun x env1 => (match x.fz with
    | .bl true => .ok (.val (.bl true)) env1
    | .bl false => evE b env1
    | _ => .no)
  | .not a, env => (evE a env).bind fun x env1 => (match x.fz with
    | .bl b => .ok (.val (.bl (!b))) env1
    | _ => .no)
  | .ife c a b, env => (evT c env).bind fun k env1 => (match k with
    | true => evE a env1
    | false => evE b env1)
  | .tup es, env => (evEs es env).bind fun ws env1 => if decide (ws.length ≤ 16777216) then .ok (.val (.tup (fzs ws))) env1 else .no
  | .lst es, env => (evEs es env).bind fun ws env1 => if decide (ws.length ≤ 16777216) then .ok (.lst ws) env1 else .no
  | .ix a i, env => (evE a env).bind fun x env1 => (evE i env1).bind fun y env2 => R.of ((ixT x.fz y.fz).map .val) env2
  | .sl a lo hi, env => (evE a env).bind fun x env1 => (evO lo env1).bind fun l env2 => (evO hi env2).bind fun h env3 => R.of (slT x.fz l h) env3
  | .bi b es, env => (evEs es env).bind fun ws env1 => R.of (biT b (fzs ws)) env1
  | .isi a c, env => (evE a env).bind fun x env1 => R.of ((isiT [c] x.fz).map fun b => .val (.bl b)) env1
  | .isis a cs, env => (evE a env).bind fun x env1 => R.of ((isiT cs x.fz).map fun b => .val (.bl b)) env1
  | .call f as ds, env => (evA as env).bind fun ws env1 => (match C f (ws.1 ++ ds.map .val) with
    | .ok w outs => .ok w (backO ws.2 outs env1)
    | .exc c t outs => .exc c t (backO ws.2 outs env1)
    | .no => .no)
  | .callk f as ks, env => (evA as env).bind fun ws env1 => (evA ks env1).bind fun us env2 => (match C f (ws.1 ++ us.1) with
    | .ok w outs => .ok w (backO ws.2 outs env2)
    | .exc c t outs => .exc c t (backO ws.2 outs env2)
    | .no => .no)
  | .lc own tg it cs e, env => (evI it env).bind fun ts env1 => if hidOk env1 own && tgIn tg own then (match lcL tg own (evTs cs) (evE e) ts [] (wipeE env1 own) with
    | .ok ws env2 => .ok (.lst ws) (backE env1 env2 own)
    | _ => .no) else .no
  | .lenS z, env => (evSe z env).bind fun is env1 => .ok (.val (.int is.length)) env1
  | .srtS z, env => (evSe z env).bind fun is env1 => if decide (is.length < 64) then .ok (.lst ((sortI is).map fun i => .val (.int i))) env1 else .no
  | .lrng3 a b c, env => (evE a env).bind fun x env1 => (evE b env1).bind fun y env2 => (evE c env2).bind fun z env3 => R.of ((rng3T x.fz y.fz z.fz).map fun is => .lst (is.map fun i => .val (.int i))) env3
  | .rev a, env => (evE a env).bind fun x env1 => R.of (revT x.fz) env1
  | .alt a b, env => (match evE a env with
    | .no => evE b env
    | r => r)
  | .fld c f a, env => (evE a env).bind fun w env1 => R.of ((fldT c f w.fz).map .val) env1
  | .fldv c f i, env => (match env[i]? with
    | some (some (.val t)) => R.of ((fldT c f t).map .val) env
    | some (some (.nd (.ins c' fs) ws)) => if c' = c then (match getN fs ws f with
      | some (.val t) => .ok (.val t) env
      | _ => .no) else .no
    | _ => .no)
  | .meth c m f a as ds, env => (evE a env).bind fun w env1 => if isIns c m w.fz then (evA as env1).bind fun ws env2 => callR ws.2 (C f (.val w.fz :: (ws.1 ++ ds.map .val))) env2 else .no
  | .methv c m f i as ds, env => (match env[i]? with
    | some (some w) => if isIns c m w.fz then (evA as (env.set i none)).bind fun ws env2 => callR (i :: ws.2) (C f (w :: (ws.1 ++ ds.map .val))) env2 else .no
    | _ => .no)
  | .prop c f a, env => (evE a env).bind fun w env1 => if isOf c w.fz then (match C f [.val w.fz] with
    | .ok w' _ => .ok w' env1
    | _ => .no) else .no
  | .new c f es ks ar, env => (evEs es env).bind fun ws env1 => (evEs ks env1).bind fun us env2 => (match arr (fzs ws) (fzs us) ar with
    | some ts => newR (C f (.nd (.ins c []) [] :: ts.map .val)) env2
    | none => .no)
  | .newst c f e, env => (evE e env).bind fun w env1 => (match w.fz with
    | .tup ts => if decide (ts.length ≤ 16777216) then newR (C f [.nd (.ins c []) [], .val (.tup ts)]) env1 else .no
    | .lst ts => if decide (ts.length ≤ 16777216) then newR (C f [.nd (.ins c []) [], .val (.tup ts)]) env1 else .no
    | _ => .no)
  | .newdd c f es e ks ar, env => (evEs es env).bind fun ws env1 => (evE e env1).bind fun w env2 => (match kdct w.fz with
    | some (js, us) => if isKw ks js then (match arr (fzs ws) us ar with
      | some ts => newR (C f (.nd (.ins c []) [] :: ts.map .val)) env2
      | none => .no) else .no
    | none => .no)
  | .deq a b, env => (evE a env).bind fun x env1 => (evE b env1).bind fun y env2 => R.of ((deqT x.fz y.fz).map fun k => .val (.bl k)) env2
  | .callw f es ks ar, env => (evEs es env).bind fun ws env1 => (evEs ks env1).bind fun us env2 => (match arr (fzs ws) (fzs us) ar with
    | some ts => callR [] (C f (ts.map .val)) env2
    | none => .no)
  | .own c f a b, env => (evE a env).bind fun x env1 => (evE b env1).bind fun y env2 => if isOf c x.fz then callR [] (C f [.val x.fz, .val y.fz]) env2 else .no
  | .ownE c cs f a b, env => (evE a env).bind fun x env1 => (evE b env1).bind fun y env2 => if isOf c x.fz && (iscT c cs y.fz).isSome then callR [] (C f [.val x.fz, .val y.fz]) env2 else .no
  | .ownB c f a b, env => (evE a env).bind fun x env1 => (evE b env1).bind fun y env2 => if isOf c x.fz && isOf c y.fz then callR [] (C f [.val x.fz, .val y.fz]) env2 else .no
  | .ownN c f a b, env => (evE a env).bind fun x env1 => (evE b env1).bind fun y env2 => if isOf c x.fz && isOf c y.fz then (callR [] (C f [.val x.fz, .val y.fz]) env2).bind fun w env3 => (match w.fz with
    | .bl k => .ok (.val (.bl (!k))) env3
    | _ => .no) else .no
  | .ownI c f a b, env => (evE a env).bind fun x env1 => (evE b env1).bind fun y env2 => if isOf c y.fz then (callR [] (C f [.val y.fz, .val x.fz]) env2).bind fun w env3 => (match w.fz with
    | .bl k => .ok (.val (.bl k)) env3
    | _ => .no) else .no
  | .isc c cs a, env => (evE a env).bind fun w env1 => R.of ((iscT c cs w.fz).map fun k => .val (.bl k)) env1
  | .dct ks es, env => (evEs es env).bind fun ws env1 => if decide (ks.length = ws.length) && decide (ks.length ≤ 15) then .ok (.nd (.dct ks) ws) env1 else .no
  | .items a, env => (evE a env).bind fun w env1 => R.of (itemsT w.fz) env1
  | .kin n a, env => (evE a env).bind fun w env1 => (match (G n).bind kdct, w.fz with
    | some (ks, _), .str x => .ok (.val (.bl (ks.any fun j => decide (j = .inr x)))) env1
    | _, _ => .no)
  | .kget n a, env => (evE a env).bind fun w env1 => (match (G n).bind kdct, w.fz with
    | some (ks, ts), .str x => R.of ((getN ks ts (.inr x)).map .val) env1
    | _, _ => .no)
  | .klist n, env => (match (G n).bind kdct with
    | some (ks, _) => .ok (.lst (ks.map fun k => .val (tKey k))) env
    | none => .no)
  | .lc2 own own2 tg it tg2 it2 e, env => (evI it env).bind fun ts env1 => if hidOk env1 own && (tgIn tg own && (tgIn tg2 own2 && own2.all own.contains)) then
      (match lc2L tg own (fun acc env2 => (evI it2 env2).bind fun us env3 => if hidOk env3 own2 then lcL tg2 own2 (fun e => .ok true e) (evE e) us acc (wipeE env3 own2) else .no) ts [] (wipeE env1 own) with
      | .ok ws env2 => .ok (.lst ws) (backE env1 env2 own)
      | _ => .no) else .no
  | .srtX own tg it cs e, env => (evI it env).bind fun ts env1 => if hidOk env1 own && tgIn tg own then (match sxL tg own (evTs cs) (evE e) ts [] (wipeE env1 own) with
    | .ok ss env2 => .ok (.lst ((sortS ss).map fun x => .val (.str x))) (backE env1 env2 own)
    | _ => .no) else .no
  | .popv i e, env => (match env[i]? with
    | some (some (.lst _)) => (evE e env).bind fun k env1 => (match env1[i]?, k.fz with
      | some (some (.lst ws)), .int j => (match L2.ixN ws.length j with
        | some n => (match ws[n]? with
          | some w => if decide (ws.length ≤ 16777216) then .ok w (env1.set i (some (.lst (ws.eraseIdx n)))) else .no
          | none => .no)
        | none => .no)
      | _, _ => .no)
    | _ => .no)
  | .lenv i, env => (match env[i]? with
    | some (some w) => R.of (lenT [w.fz]) env
    | _ => .no)
  | .cmpv o i b, env => (match env[i]? with
    | some (some _) => (evE b env).bind fun y env1 => (match env1[i]? with
      | some (some w) => R.of ((cmpT o w.fz y.fz).map fun k => .val (.bl k)) env1
      | _ => .no)
    | _ => .no)
  | .lrng a b, env => (evE a env).bind fun x env1 => (evO b env1).bind fun y env2 => R.of ((rngT x.fz y).map fun is => .lst (is.map fun i => .val (.int i))) env2
def evSe : Se → Env → R (List Int)
  | .sc own tg it cs e, env => (evI it env).bind fun ts env1 => if hidOk env1 own && tgIn tg own then (match scL tg own (evTs cs) (evE e) ts [] (wipeE env1 own) with
    | .ok is env2 => .ok is (backE env1 env2 own)
    | _ => .no) else .no
  | .of e, env => (evE e env).bind fun w env1 => (match w.fz with
    | .lst ts => (match T.ints ts with
      | some is => if decide (is.length < 4095) then .ok (dedI [] is) env1 else .no
      | none => .no)
    | _ => .no)
def evEs : Es → Env → R (List W)
  | .nil, env => .ok [] env
  | .cons e es, env => (evE e env).bind fun w env1 => (evEs es env1).bind fun ws env2 => .ok (w :: ws) env2
def evO : Eo → Env → R (Option Int)
  | .no, env => .ok none env
  | .so e, env => (evE e env).bind fun w env1 => (match w.fz with
    | .int i => .ok (some i) env1
    | _ => .no)
def evT : Tt → Env → R Bool
  | .v e, env => (evE e env).bind fun w env1 => R.of w.fz.tru env1
  | .one a, env => evT a env
  | .and a b, env => (evT a env).bind fun k env1 => (match k with
    | true => evT b env1
    | false => .ok false env1)
  | .or a b, env => (evT a env).bind fun k env1 => (match k with
    | true => .ok true env1
    | false => evT b env1)
  | .not a, env => (evT a env).bind fun k env1 => .ok (!k) env1
def evTs : Tts → Env → R Bool
  | .nil, env => .ok true env
  | .cons c cs, env => (evT c env).bind fun k env1 => (match k with
    | true => evTs cs env1
    | false => .ok false env1)
def evI : It → Env → R (List T)
  | .e e, env => (evE e env).bind fun w env1 => (match w.fz with
    | .lst ts => .ok ts env1
    | .tup ts => .ok ts env1
    | _ => .no)
  | .rng a b, env => (evE a env).bind fun x env1 => (evO b env1).bind fun y env2 => R.of ((rngT x.fz y).map fun is => is.map .int) env2
  | .keys e, env => (evE e env).bind fun w env1 => (match w with
    | .nd (.dct ks) _ => .ok (ks.map tKey) env1
    | .val (.nd (.dcl ks) _) => .ok (ks.map tKey) env1
    | _ => .no)
  | .keysv i, env => (match env[i]? with
    | some (some (.nd (.dct ks) ws)) => .ok (ks.map tKey) (env.set i (some (.val (.nd (.dcl ks) (fzs ws)))))
    | some (some (.val (.nd (.dcl ks) _))) => .ok (ks.map tKey) env
    | _ => .no)
  | .kk n, env => (match (G n).bind kdct with
    | some (ks, _) => .ok (ks.map tKey) env
    | none => .no)
  | .enum e, env => (evE e env).bind fun w env1 => (match w.fz with
    | .lst ts => .ok ((ts.zipIdx).map fun p => .tup [.int p.2, p.1]) env1
    | .tup ts => .ok ((ts.zipIdx).map fun p => .tup [.int p.2, p.1]) env1
    | _ => .no)
  | .zip a b, env => (evE a env).bind fun x env1 => (evE b env1).bind fun y env2 => (match x.fz, y.fz with
    | .tup ts, .tup us => .ok ((ts.zip us).map fun p => .tup [p.1, p.2]) env2
    | .lst ts, .lst us => .ok ((ts.zip us).map fun p => .tup [p.1, p.2]) env2
    | _, _ => .no)
/-- arguments: the values, and the slots that are handed in and out -/
def evA : As → Env → R (List W × List Nat)
  | .nil, env => .ok ([], []) env
  | .cons e as, env => (evE e env).bind fun w env1 => (evA as env1).bind fun r env2 => .ok (.val w.fz :: r.1, r.2) env2
  | .io i as, env => (match env[i]? with
    | some (some w) => (evA as (env.set i none)).bind fun r env2 => .ok (w :: r.1, i :: r.2) env2
    | _ => .no)
end
mutual
def evS : S → Env → R F
  | .asg i e, env => (evE G C e env).bind fun w env1 => .ok .nx (env1.set i (some w))
  | .asgT is e, env => (evE G C e env).bind fun w env1 => (match tgE (.tup is) w.fz env1 with
    | some env2 => .ok .nx env2
    | none => .no)
  | .par is es, env => (evEs G C es env).bind fun ws env1 => if is.length = ws.length then .ok .nx ((is.zip ws).foldl (fun e p => e.set p.1 (some p.2)) env1) else .no
  | .setx i k e, env => (evE G C e env).bind fun w env1 => (match env1[i]? with
    | some (some (.nd (.dct _) _)) => (evE G C k env1).bind fun y env2 => (match env2[i]?, keyT y.fz with
      | some (some (.nd (.dct ks) ws)), some j => if decide (ks.length < 16777216) then .ok .nx (env2.set i (some (.nd (.dct (putN ks j)) (putV ks ws j w)))) else .no
      | _, _ => .no)
    | some (some (.lst _)) => (evE G C k env1).bind fun y env2 => (match env2[i]? with
      | some (some (.lst ws)) => (match y.fz with
        | .int j => (match L2.ixN ws.length j with
          | some n => .ok .nx (env2.set i (some (.lst (ws.set n w))))
          | none => .no)
        | _ => .no)
      | _ => .no)
    | _ => .no)
  | .app i e, env => (match env[i]? with
    | some (some (.lst _)) => (evE G C e env).bind fun w env1 => (match env1[i]? with
      | some (some (.lst ws)) => if decide (ws.length < 16777216) then .ok .nx (env1.set i (some (.lst (ws ++ [w])))) else .no
      | _ => .no)
    | _ => .no)
  | .expr e, env => (evE G C e env).bind fun _ env1 => .ok .nx env1
  | .ret e, env => (evE G C e env).bind fun w env1 => .ok (.rt w) env1
  | .retv i, env => (match env[i]? with
    | some (some w) => .ok (.rt w) (env.set i none)
    | _ => .no)
  | .retn, env => .ok (.rt (.val .non)) env
  | .ife c a b, env => (evT G C c env).bind fun k env1 => (match k with
    | true => evSs a env1
    | false => evSs b env1)
  | .for_ tg it b, env => (evI G C it env).bind fun ts env1 => forL tg (evSs b) ts env1
  | .whl n c b, env => whlL (evT G C c) (evSs b) n env
  | .setf c f i e, env => (evE G C e env).bind fun w env1 => (match env1[i]? with
    | some (some (.nd (.ins c' fs) ws)) => if decide (c' = c) && decide (fs.length < 1000) then .ok .nx (env1.set i (some (.nd (.ins c (putN fs f)) (putV fs ws f w)))) else .no
    | _ => .no)
  | .appx i k e, env => (match env[i]? with
    | some (some (.lst _)) => (evE G C k env).bind fun j env1 => (match env1[i]?, j.fz with
      | some (some (.lst ws)), .int j => (match L2.ixN ws.length j with
        | some n => (match ws[n]? with
          | some (.lst us) => (evE G C e (env1.set i none)).bind fun w env2 => if decide (us.length < 16777216) then .ok .nx (env2.set i (some (.lst (ws.set n (.lst (us ++ [w])))))) else .no
          | _ => .no)
        | none => .no)
      | _, _ => .no)
    | _ => .no)
  | .clrt e, env => (evE G C e env).bind fun w env1 => (match w with
    | .lst _ => .ok .nx env1
    | _ => .no)
  | .pass, env => .ok .nx env
  | .never, _ => .no
def evSs : Ss → Env → R F
  | .nil, env => .ok .nx env
  | .cons s ss, env => (evS s env).bind fun f env1 => (match f with
    | .nx => evSs ss env1
    | f => .ok f env1)
end
end
/-- a def: how many parameters, how many slots, the parameters that are handed in and out, the body -/
structure FD where
  np : Nat
  ns : Nat
  io : List Nat
  body : Ss
def callN (G : Nat → Option T) (tab : Nat → Option FD) : Nat → Calls
  | 0, _, _ => .no
  | d + 1, f, ws => match tab f with
    | none => .no
    | some fd => if ws.length = fd.np then (match evSs G (callN G tab d) fd.body (ws.map some ++ List.replicate (fd.ns - fd.np) none) with
      | .ok .nx env => .ok (.val .non) (outE env fd.io)
      | .ok (.rt w) env => .ok w (outE env fd.io)
      | .ok _ _ => .no
      | .exc c t env => .exc c t (outE env fd.io)
      | .no => .no) else .no
end Ev
/-! Ev1: what a tree says of the heap. -/
namespace Ev
open PySem L2

/-- a set of ints by its members -/
structure SetIs (S : Int → Bool) (n : Nat) (is : List Int) : Prop where
  mem : ∀ i, S i = true ↔ i ∈ is
  nd : is.Nodup
  len : n = is.length
/-- a dict by its keys and values -/
def DctO (ks : List Key) (xs : List V) (o : HO) : Prop := ∃ kvs : List (Key × V), o = .dK kvs ∧ kvs.map (·.1) = ks ∧ kvs.map (·.2) = xs ∧ ks.Nodup
/-- what stands at an address, by its values -/
def NdO (K : PySem.W.Frag) : Nd → List V → HO → Prop
  | .dct ks, xs, o => DctO ks xs o
  | .dcl ks, xs, o => DctO ks xs o
  | .ins c fs, xs, o => ∃ (dx : Addr) (kvs : List (Str × V)), o = .ins (He.ga K c) dx kvs ∧ kvs.map (·.1) = fs ∧ kvs.map (·.2) = xs
/-- how it stands: a dict may be locked -/
def AtN (H : Hp) (a : Addr) (o : HO) : Nd → Prop
  | .dct _ => H a = some o
  | .dcl _ => ∃ u, H a = some (.frz u o)
  | .ins _ _ => H a = some o
/-- an owned one: never locked -/
def Nd.free : Nd → Bool
  | .dcl _ => false
  | _ => true
theorem AtN.of {H : Hp} {a : Addr} {o : HO} {n : Nd} (h : H a = some o) (f : n.free = true) : AtN H a o n := by
  cases n with
  | dct ks => exact h
  | dcl ks => cases f
  | ins c fs => exact h
theorem AtN.there {H : Hp} {a : Addr} {o : HO} {n : Nd} (h : AtN H a o n) : ∃ u, H a = some u := by
  cases n with
  | dct ks => exact ⟨_, h⟩
  | dcl ks => obtain ⟨u, h⟩ := h; exact ⟨_, h⟩
  | ins c fs => exact ⟨_, h⟩
theorem AtN.mono {H H' : Hp} {a : Addr} {o : HO} {n : Nd} (h : AtN H a o n) (keep : ∀ u, H a = some u → H' a = some u) : AtN H' a o n := by
  cases n with
  | dct ks => exact keep _ h
  | dcl ks => obtain ⟨u, h⟩ := h; exact ⟨u, keep _ h⟩
  | ins c fs => exact keep _ h
/-- a dict, however it stands -/
theorem AtN.rd {H : Hp} {a : Addr} {o : HO} {n : Nd} (h : AtN H a o n) : Rd H a o := by
  cases n with
  | dct ks => exact .inl h
  | dcl ks => exact .inr h
  | ins c fs => exact .inl h
theorem NdO.dct {K : PySem.W.Frag} {n : Nd} {xs : List V} {o : HO} {ks : List Key} (h : NdO K n xs o) (e : n.keys = some ks) : DctO ks xs o := by
  cases n with
  | dct js => cases e; exact h
  | dcl js => cases e; exact h
  | ins c fs => cases e
theorem NdO.notup {K : PySem.W.Frag} {n : Nd} {xs : List V} {o : HO} (h : NdO K n xs o) : ∀ ys, o ≠ .tup ys := by
  cases n with
  | dct ks => obtain ⟨kvs, rfl, _⟩ := h; exact fun ys z => by cases z
  | dcl ks => obtain ⟨kvs, rfl, _⟩ := h; exact fun ys z => by cases z
  | ins c fs => obtain ⟨dx, kvs, rfl, _⟩ := h; exact fun ys z => by cases z
theorem NdO.nofrz {K : PySem.W.Frag} {n : Nd} {xs : List V} {o : HO} (h : NdO K n xs o) : ∀ u ys, o ≠ .frz u ys := by
  cases n with
  | dct ks => obtain ⟨kvs, rfl, _⟩ := h; exact fun u ys z => by cases z
  | dcl ks => obtain ⟨kvs, rfl, _⟩ := h; exact fun u ys z => by cases z
  | ins c fs => obtain ⟨dx, kvs, rfl, _⟩ := h; exact fun u ys z => by cases z
section
variable (K : PySem.W.Frag) (H : Hp) (av : Addr → Prop)
mutual
def Fz : T → V → Prop
  | .non, v => v = .non
  | .bl b, v => v = .bl b
  | .int i, v => v = .int i
  | .str x, v => v = .str x
  | .ty n, v => v = .ty n
  | .gl _, _ => False
  | .tup ts, v => ∃ a xs, v = .ref a ∧ SqT K H a xs ∧ FzL ts xs
  | .lst ts, v => ∃ a xs, v = .ref a ∧ Rd H a (.lst xs) ∧ ¬ av a ∧ FzL ts xs
  | .set ts, v => ∃ a S n is, v = .ref a ∧ H a = some (.set S n) ∧ ¬ av a ∧ SetIs S n is ∧ ts = is.map T.int
  | .nd n ts, v => ∃ a xs o, v = .ref a ∧ AtN H a o n ∧ ¬ av a ∧ NdO K n xs o ∧ FzL ts xs
  | .scr is, v => ∃ a, v = .ref a ∧ ((Rd H a (.lst (is.map V.int)) ∧ ¬ av a) ∨ SqL K (fun _ => none) a (is.map V.int))
def FzL : List T → List V → Prop
  | [], vs => vs = []
  | t :: ts, vs => ∃ v r, vs = v :: r ∧ Fz t v ∧ FzL ts r
end
mutual
def Own : W → V → List Addr → Prop
  | .val t, v, A => A = [] ∧ Fz K H av t v
  | .lst ws, v, A => ∃ a xs B, v = .ref a ∧ A = a :: B ∧ H a = some (.lst xs) ∧ OwnL ws xs B
  | .nd n ws, v, A => ∃ a xs o B, v = .ref a ∧ A = a :: B ∧ H a = some o ∧ (NdO K n xs o ∧ n.free = true) ∧ OwnL ws xs B
  | .set ts, v, A => ∃ a S n is, v = .ref a ∧ A = [a] ∧ H a = some (.set S n) ∧ SetIs S n is ∧ ts = is.map T.int
def OwnL : List W → List V → List Addr → Prop
  | [], vs, A => vs = [] ∧ A = []
  | w :: ws, vs, A => ∃ v r B D, vs = v :: r ∧ A = B ++ D ∧ Own w v B ∧ OwnL ws r D
end
end
/-- a frame's slots -/
def RE (K : PySem.W.Frag) (H : Hp) (av : Addr → Prop) : Env → St → List Addr → Prop
  | [], σ, A => σ = [] ∧ A = []
  | none :: env, σ, A => ∃ o r, σ = o :: r ∧ RE K H av env r A
  | some w :: env, σ, A => ∃ v r B D, σ = some v :: r ∧ A = B ++ D ∧ Own K H av w v B ∧ RE K H av env r D
def Av (A : List Addr) (Rt : Addr → Prop) : Addr → Prop := fun b => b ∈ A ∨ Rt b
/-- from H to H': what is not in A stands as it stood -/
structure Stp (A : List Addr) (H H' : Hp) : Prop where
  keep : ∀ b o, H b = some o → b ∉ A → H' b = some o
  tups : ∀ b xs, Rd H b (.tup xs) → Rd H' b (.tup xs)

section
variable {K : PySem.W.Frag} {H H' : Hp} {av av' : Addr → Prop}
theorem SqT.mono (tups : ∀ b xs, Rd H b (.tup xs) → Rd H' b (.tup xs)) {a : Addr} {xs : List V} (h : SqT K H a xs) : SqT K H' a xs := by
  rcases h with h | h
  · exact .inl (tups _ _ h)
  · exact .inr h
theorem Rd.mono {a : Addr} {u : HO} (h : Rd H a u) (keep : ∀ o, H a = some o → H' a = some o) : Rd H' a u := by
  rcases h with h | ⟨o, h⟩
  · exact .inl (keep _ h)
  · exact .inr ⟨o, keep _ h⟩
theorem Rd.there {a : Addr} {u : HO} (h : Rd H a u) : ∃ o, H a = some o := by
  rcases h with h | ⟨o, h⟩
  · exact ⟨_, h⟩
  · exact ⟨_, h⟩
mutual
theorem Fz.mono (keep : ∀ b o, H b = some o → ¬ av b → H' b = some o) (tups : ∀ b xs, Rd H b (.tup xs) → Rd H' b (.tup xs)) (hav : ∀ b, av' b → av b ∨ H b = none) :
    ∀ (t : T) (v : V), Fz K H av t v → Fz K H' av' t v
  | .non, _, h => h
  | .bl _, _, h => h
  | .int _, _, h => h
  | .str _, _, h => h
  | .ty _, _, h => h
  | .gl _, _, h => h
  | .tup ts, v, h => by
    obtain ⟨a, xs, e, hs, hl⟩ := h
    exact ⟨a, xs, e, SqT.mono tups hs, FzL.mono keep tups hav ts xs hl⟩
  | .lst ts, v, h => by
    obtain ⟨a, xs, e, hs, na, hl⟩ := h
    refine ⟨a, xs, e, Rd.mono hs fun o q => keep a o q na, fun z => ?_, FzL.mono keep tups hav ts xs hl⟩
    rcases hav a z with z | z1
    · exact na z
    · obtain ⟨o, q⟩ := Rd.there hs
      rw [z1] at q; cases q
  | .set ts, v, h => by
    obtain ⟨a, S, n, is, e, hs, na, si, et⟩ := h
    refine ⟨a, S, n, is, e, keep a _ hs na, fun z => ?_, si, et⟩
    rcases hav a z with z | z1
    · exact na z
    · rw [z1] at hs; cases hs
  | .nd n ts, v, h => by
    obtain ⟨a, xs, o, e, hs, na, no, hl⟩ := h
    refine ⟨a, xs, o, e, AtN.mono hs fun o q => keep a o q na, fun z => ?_, no, FzL.mono keep tups hav ts xs hl⟩
    rcases hav a z with z | z1
    · exact na z
    · obtain ⟨o, q⟩ := AtN.there hs
      rw [z1] at q; cases q
  | .scr is, v, h => by
    obtain ⟨a, e, hs⟩ := h
    rcases hs with ⟨hs, na⟩ | hs
    · refine ⟨a, e, .inl ⟨Rd.mono hs fun o q => keep a o q na, fun z => ?_⟩⟩
      rcases hav a z with z | z1
      · exact na z
      · obtain ⟨o, q⟩ := Rd.there hs
        rw [z1] at q; cases q
    · exact ⟨a, e, .inr hs⟩
theorem FzL.mono (keep : ∀ b o, H b = some o → ¬ av b → H' b = some o) (tups : ∀ b xs, Rd H b (.tup xs) → Rd H' b (.tup xs)) (hav : ∀ b, av' b → av b ∨ H b = none) :
    ∀ (ts : List T) (vs : List V), FzL K H av ts vs → FzL K H' av' ts vs
  | [], _, h => h
  | t :: ts, vs, h => by
    obtain ⟨v, r, e, h1, h2⟩ := h
    exact ⟨v, r, e, Fz.mono keep tups hav t v h1, FzL.mono keep tups hav ts r h2⟩
end
mutual
theorem Own.mono : ∀ (w : W) (v : V) (B : List Addr), (∀ b o, H b = some o → (b ∈ B ∨ ¬ av b) → H' b = some o) → (∀ b xs, Rd H b (.tup xs) → Rd H' b (.tup xs)) → (∀ b, av' b → av b ∨ H b = none) →
    Own K H av w v B → Own K H' av' w v B
  | .val t, v, B, keep, tups, hav, h => ⟨h.1, Fz.mono (fun b o q n => keep b o q (.inr n)) tups hav t v h.2⟩
  | .lst ws, v, B, keep, tups, hav, h => by
    obtain ⟨a, xs, D, e, eB, ha, hl⟩ := h
    subst eB
    exact ⟨a, xs, D, e, rfl, keep a _ ha (.inl List.mem_cons_self), OwnL.mono ws xs D (fun b o q n => keep b o q (n.imp (List.mem_cons_of_mem _) id)) tups hav hl⟩
  | .nd n ws, v, B, keep, tups, hav, h => by
    obtain ⟨a, xs, o, D, e, eB, ha, no, hl⟩ := h
    subst eB
    exact ⟨a, xs, o, D, e, rfl, keep a _ ha (.inl List.mem_cons_self), no, OwnL.mono ws xs D (fun b o q n => keep b o q (n.imp (List.mem_cons_of_mem _) id)) tups hav hl⟩
  | .set ts, v, B, keep, tups, hav, h => by
    obtain ⟨a, S, n, is, e, eB, ha, si, et⟩ := h
    subst eB
    exact ⟨a, S, n, is, e, rfl, keep a _ ha (.inl List.mem_cons_self), si, et⟩
theorem OwnL.mono : ∀ (ws : List W) (vs : List V) (B : List Addr), (∀ b o, H b = some o → (b ∈ B ∨ ¬ av b) → H' b = some o) → (∀ b xs, Rd H b (.tup xs) → Rd H' b (.tup xs)) → (∀ b, av' b → av b ∨ H b = none) →
    OwnL K H av ws vs B → OwnL K H' av' ws vs B
  | [], _, _, _, _, _, h => h
  | w :: ws, vs, B, keep, tups, hav, h => by
    obtain ⟨v, r, B1, B2, e, eB, h1, h2⟩ := h
    subst eB
    exact ⟨v, r, B1, B2, e, rfl, Own.mono w v B1 (fun b o q n => keep b o q (n.imp (List.mem_append_left _) id)) tups hav h1, OwnL.mono ws r B2 (fun b o q n => keep b o q (n.imp (List.mem_append_right _) id)) tups hav h2⟩
end
theorem RE.mono : ∀ (env : Env) (σ : St) (A : List Addr), (∀ b o, H b = some o → (b ∈ A ∨ ¬ av b) → H' b = some o) → (∀ b xs, Rd H b (.tup xs) → Rd H' b (.tup xs)) → (∀ b, av' b → av b ∨ H b = none) →
    RE K H av env σ A → RE K H' av' env σ A
  | [], _, _, _, _, _, h => h
  | none :: env, σ, A, keep, tups, hav, h => by
    obtain ⟨o, r, e, h⟩ := h
    exact ⟨o, r, e, RE.mono env r A keep tups hav h⟩
  | some w :: env, σ, A, keep, tups, hav, h => by
    obtain ⟨v, r, B1, B2, e, eB, h1, h2⟩ := h
    subst eB
    exact ⟨v, r, B1, B2, e, rfl, Own.mono w v B1 (fun b o q n => keep b o q (n.imp (List.mem_append_left _) id)) tups hav h1, RE.mono env r B2 (fun b o q n => keep b o q (n.imp (List.mem_append_right _) id)) tups hav h2⟩
mutual
theorem Own.fz (hav : ∀ b, av' b → av b) : ∀ (w : W) (v : V) (B : List Addr), (∀ b ∈ B, ¬ av' b) → Own K H av w v B → Fz K H av' w.fz v
  | .val t, v, B, _, h => Fz.mono (fun b o q n => q) (fun _ _ q => q) (fun b z => .inl (hav b z)) t v h.2
  | .lst ws, v, B, nb, h => by
    obtain ⟨a, xs, D, e, eB, ha, hl⟩ := h
    subst eB
    exact ⟨a, xs, e, Rd.of ha, nb a List.mem_cons_self, OwnL.fz hav ws xs D (fun b hb => nb b (List.mem_cons_of_mem _ hb)) hl⟩
  | .nd n ws, v, B, nb, h => by
    obtain ⟨a, xs, o, D, e, eB, ha, no, hl⟩ := h
    subst eB
    exact ⟨a, xs, o, e, AtN.of ha no.2, nb a List.mem_cons_self, no.1, OwnL.fz hav ws xs D (fun b hb => nb b (List.mem_cons_of_mem _ hb)) hl⟩
  | .set ts, v, B, nb, h => by
    obtain ⟨a, S, n, is, e, eB, ha, si, et⟩ := h
    subst eB
    exact ⟨a, S, n, is, e, ha, nb a List.mem_cons_self, si, et⟩
theorem OwnL.fz (hav : ∀ b, av' b → av b) : ∀ (ws : List W) (vs : List V) (B : List Addr), (∀ b ∈ B, ¬ av' b) → OwnL K H av ws vs B → FzL K H av' (fzs ws) vs
  | [], _, _, _, h => h.1
  | w :: ws, vs, B, nb, h => by
    obtain ⟨v, r, B1, B2, e, eB, h1, h2⟩ := h
    subst eB
    exact ⟨v, r, e, Own.fz hav w v B1 (fun b hb => nb b (List.mem_append_left _ hb)) h1, OwnL.fz hav ws r B2 (fun b hb => nb b (List.mem_append_right _ hb)) h2⟩
end
mutual
theorem Own.there : ∀ (w : W) (v : V) (B : List Addr), Own K H av w v B → ∀ b ∈ B, ∃ o, H b = some o ∧ ∀ xs, ¬ Rd H b (.tup xs)
  | .val t, v, B, h, b, hb => by rw [h.1] at hb; cases hb
  | .lst ws, v, B, h, b, hb => by
    obtain ⟨a, xs, D, e, eB, ha, hl⟩ := h
    subst eB
    rcases List.mem_cons.mp hb with rfl | hb
    · refine ⟨_, ha, fun xs z => ?_⟩
      rcases z with z | ⟨o, z⟩ <;> (rw [ha] at z; cases z)
    · exact OwnL.there ws xs D hl b hb
  | .nd n ws, v, B, h, b, hb => by
    obtain ⟨a, xs, o, D, e, eB, ha, no, hl⟩ := h
    subst eB
    rcases List.mem_cons.mp hb with rfl | hb
    · refine ⟨_, ha, fun xs z => ?_⟩
      rcases z with z | ⟨u, z⟩
      · rw [ha] at z; exact no.1.notup _ (Option.some.inj z)
      · rw [ha] at z; exact no.1.nofrz _ _ (Option.some.inj z)
    · exact OwnL.there ws xs D hl b hb
  | .set ts, v, B, h, b, hb => by
    obtain ⟨a, S, n, is, e, eB, ha, si, et⟩ := h
    subst eB
    rcases List.mem_cons.mp hb with rfl | hb
    · refine ⟨_, ha, fun xs z => ?_⟩
      rcases z with z | ⟨o, z⟩ <;> (rw [ha] at z; cases z)
    · cases hb
theorem OwnL.there : ∀ (ws : List W) (vs : List V) (B : List Addr), OwnL K H av ws vs B → ∀ b ∈ B, ∃ o, H b = some o ∧ ∀ xs, ¬ Rd H b (.tup xs)
  | [], _, _, h, b, hb => by rw [h.2] at hb; cases hb
  | w :: ws, vs, B, h, b, hb => by
    obtain ⟨v, r, B1, B2, e, eB, h1, h2⟩ := h
    subst eB
    rcases List.mem_append.mp hb with hb | hb
    · exact Own.there w v B1 h1 b hb
    · exact OwnL.there ws r B2 h2 b hb
end
theorem RE.there : ∀ (env : Env) (σ : St) (A : List Addr), RE K H av env σ A → ∀ b ∈ A, ∃ o, H b = some o ∧ ∀ xs, ¬ Rd H b (.tup xs)
  | [], _, _, h, b, hb => by rw [h.2] at hb; cases hb
  | none :: env, σ, A, h, b, hb => by
    obtain ⟨o, r, e, h⟩ := h
    exact RE.there env r A h b hb
  | some w :: env, σ, A, h, b, hb => by
    obtain ⟨v, r, B1, B2, e, eB, h1, h2⟩ := h
    subst eB
    rcases List.mem_append.mp hb with hb | hb
    · exact Own.there w v B1 h1 b hb
    · exact RE.there env r B2 h2 b hb
theorem RE.len : ∀ (env : Env) (σ : St) (A : List Addr), RE K H av env σ A → env.length = σ.length
  | [], _, _, h => by
    rw [h.1]
    rfl
  | none :: env, σ, A, h => by
    obtain ⟨o, r, e, h⟩ := h
    rw [e, List.length_cons, List.length_cons, RE.len env r A h]
  | some w :: env, σ, A, h => by
    obtain ⟨v, r, B1, B2, e, eB, h1, h2⟩ := h
    rw [e, List.length_cons, List.length_cons, RE.len env r B2 h2]
end
end Ev
/-! Ev2: states, steps; how readings follow one another. -/
namespace Ev
open PySem L2

structure Go (A : List Addr) (H : Hp) (A' : List Addr) (H' : Hp) : Prop where
  keep : ∀ b o, H b = some o → b ∉ A → H' b = some o
  tups : ∀ b xs, Rd H b (.tup xs) → Rd H' b (.tup xs)
  new : ∀ b ∈ A', b ∈ A ∨ H b = none
theorem Go.trans {A A1 B1 A2 : List Addr} {H H1 H2 : Hp} (g : Go A H (A1 ++ B1) H1) (g2 : Go A1 H1 A2 H2) : Go A H (A2 ++ B1) H2 where
  keep := fun b o q n => g2.keep b o (g.keep b o q n) fun z => (g.new b (List.mem_append_left _ z)).elim n fun e => by rw [e] at q; cases q
  tups := fun b xs h => g2.tups b xs (g.tups b xs h)
  new := fun b hb => by
    rcases List.mem_append.mp hb with hb | hb
    · rcases g2.new b hb with z | z
      · exact g.new b (List.mem_append_left _ z)
      · by_cases ha : b ∈ A
        · exact .inl ha
        · cases q : H b with
          | none => exact .inr rfl
          | some o => rw [g.keep b o q ha] at z; cases z
    · exact g.new b (List.mem_append_right _ hb)
theorem Go.sub {A A' A'' : List Addr} {H H' : Hp} (g : Go A H A' H') (h : ∀ b ∈ A'', b ∈ A') : Go A H A'' H' := ⟨g.keep, g.tups, fun b hb => g.new b (h b hb)⟩
theorem Go.refl {A : List Addr} {H : Hp} : Go A H A H := ⟨fun _ _ q _ => q, fun _ _ q => q, fun _ hb => .inl hb⟩
theorem Go.upd {A A' : List Addr} {H H' : Hp} {p : Addr} {o : HO} (g : Go A H A' H') (hp : H' p = none) : Go A H (p :: A') (L2.upd H' p o) where
  keep := fun b u q n => by
    have e := g.keep b u q n
    rw [upd_ne (ne_of_none e hp)]
    exact e
  tups := fun b xs h => by
    refine Rd.mono (g.tups b xs h) fun u q => ?_
    rw [upd_ne (ne_of_none q hp)]
    exact q
  new := fun b hb => by
    rcases List.mem_cons.mp hb with rfl | hb
    · by_cases ha : b ∈ A
      · exact .inl ha
      · cases q : H b with
        | none => exact .inr rfl
        | some u => rw [g.keep b u q ha] at hp; cases hp
    · exact g.new b hb
/-- the addresses that others own -/
def RtB (B : List Addr) (Rt : Addr → Prop) : Addr → Prop := fun b => b ∈ B ∨ Rt b
structure Rl (K : PySem.W.Frag) (Rt : Addr → Prop) (H : Hp) (σ : St) (env : Env) (A : List Addr) : Prop where
  nd : A.Nodup
  rt : ∀ b ∈ A, ¬ Rt b
  th : ∀ b, Rt b → H b ≠ none
  re : RE K H (Av A Rt) env σ A
/-- from an origin (H, A) to a state with values that own B -/
structure Sx (K : PySem.W.Frag) (Rt : Addr → Prop) (σ : St) (H : Hp) (A : List Addr) (H' : Hp) (env : Env) (A' B : List Addr) : Prop where
  go : Go A H (A' ++ B) H'
  nd : (A' ++ B).Nodup
  rt : ∀ b ∈ A' ++ B, ¬ Rt b
  th : ∀ b, Rt b → H' b ≠ none
  bth : ∀ b ∈ B, H' b ≠ none
  re : RE K H' (Av (A' ++ B) Rt) env σ A'
section
variable {K : PySem.W.Frag} {Rt : Addr → Prop} {H H1 H2 : Hp} {σ σ0 : St} {env env1 env2 : Env} {A A1 A2 B B' B1 B2 : List Addr} {p : Addr} {o : HO} {w : W} {ws : List W} {v : V} {vs : List V} {t : T} {ts : List T}
theorem Rl.sx (h : Rl K Rt H σ env A) : Sx K Rt σ H A H env A [] where
  go := by rw [List.append_nil]; exact Go.refl
  nd := by rw [List.append_nil]; exact h.nd
  rt := by rw [List.append_nil]; exact h.rt
  th := h.th
  bth := fun b hb => by cases hb
  re := by rw [List.append_nil]; exact h.re
theorem Sx.rl (h : Sx K Rt σ H A H1 env1 A1 B1) : Rl K (RtB B1 Rt) H1 σ env1 A1 where
  nd := (List.nodup_append.mp h.nd).1
  rt := fun b hb z => by
    rcases z with z | z
    · exact (List.nodup_append.mp h.nd).2.2 b hb b z rfl
    · exact h.rt b (List.mem_append_left _ hb) z
  th := fun b z => by
    rcases z with z | z
    · exact h.bth b z
    · exact h.th b z
  re := RE.mono env1 σ A1 (fun b o q _ => q) (fun _ _ q => q) (fun b z => .inl (by
    rcases z with z | z | z
    · exact .inl (List.mem_append_left _ z)
    · exact .inl (List.mem_append_right _ z)
    · exact .inr z)) h.re
theorem Sx.rl0 (h : Sx K Rt σ H A H1 env1 A1 []) : Rl K Rt H1 σ env1 A1 := by
  have e : A1 ++ [] = A1 := List.append_nil _
  exact ⟨by rw [← e]; exact h.nd, by rw [← e]; exact h.rt, h.th, by rw [← e]; exact (by have := h.re; rw [e] at this ⊢; exact this)⟩
/-- b is none of A1 where it was kept ahead -/
theorem Sx.out (h : Sx K Rt σ H A H1 env1 A1 B1) {b : Addr} (hb : b ∈ B1) : b ∉ A1 := fun z => (List.nodup_append.mp h.nd).2.2 b z b hb rfl
theorem Sx.hav (h : Sx K Rt σ0 H A H1 env1 A1 B1) (n : Sx K (RtB B1 Rt) σ H1 A1 H2 env2 A2 B2) : ∀ b, Av (A2 ++ (B1 ++ B2)) Rt b → Av (A1 ++ B1) Rt b ∨ H1 b = none := fun b z => by
  rcases z with z | z
  · rcases List.mem_append.mp z with z | z
    · exact (n.go.new b (List.mem_append_left _ z)).imp (fun q => .inl (List.mem_append_left _ q)) id
    · rcases List.mem_append.mp z with z | z
      · exact .inl (.inl (List.mem_append_right _ z))
      · exact (n.go.new b (List.mem_append_right _ z)).imp (fun q => .inl (List.mem_append_left _ q)) id
  · exact .inl (.inr z)
theorem Sx.hav2 : ∀ b, Av (A2 ++ (B1 ++ B2)) Rt b → Av (A2 ++ B2) (RtB B1 Rt) b ∨ H2 b = none := fun b z => .inl (by
  rcases z with z | z
  · rcases List.mem_append.mp z with z | z
    · exact .inl (List.mem_append_left _ z)
    · rcases List.mem_append.mp z with z | z
      · exact .inr (.inl z)
      · exact .inl (List.mem_append_right _ z)
  · exact .inr (.inr z))
theorem Sx.next (h : Sx K Rt σ0 H A H1 env1 A1 B1) (n : Sx K (RtB B1 Rt) σ H1 A1 H2 env2 A2 B2) : Sx K Rt σ H A H2 env2 A2 (B1 ++ B2) where
  go := (h.go.trans n.go).sub fun b hb => by
    rcases List.mem_append.mp hb with z | z
    · exact List.mem_append_left _ (List.mem_append_left _ z)
    · rcases List.mem_append.mp z with z | z
      · exact List.mem_append_right _ z
      · exact List.mem_append_left _ (List.mem_append_right _ z)
  nd := by
    have d1 := List.nodup_append.mp n.nd
    have d2 := List.nodup_append.mp h.nd
    refine List.nodup_append.mpr ⟨d1.1, List.nodup_append.mpr ⟨d2.2.1, d1.2.1, fun a ha b hb e => ?_⟩, fun a ha b hb e => ?_⟩
    · subst e
      exact n.rt a (List.mem_append_right _ hb) (.inl ha)
    · subst e
      rcases List.mem_append.mp hb with hb | hb
      · exact n.rt a (List.mem_append_left _ ha) (.inl hb)
      · exact d1.2.2 a ha a hb rfl
  rt := fun b hb z => by
    rcases List.mem_append.mp hb with hb | hb
    · exact n.rt b (List.mem_append_left _ hb) (.inr z)
    · rcases List.mem_append.mp hb with hb | hb
      · exact h.rt b (List.mem_append_right _ hb) z
      · exact n.rt b (List.mem_append_right _ hb) (.inr z)
  th := fun b z => n.th b (.inr z)
  bth := fun b hb => by
    rcases List.mem_append.mp hb with hb | hb
    · exact n.th b (.inl hb)
    · exact n.bth b hb
  re := RE.mono env2 σ A2 (fun b o q _ => q) (fun _ _ q => q) Sx.hav2 n.re
theorem Sx.own (h : Sx K Rt σ0 H A H1 env1 A1 B1) (n : Sx K (RtB B1 Rt) σ H1 A1 H2 env2 A2 B2) (ow : Own K H1 (Av (A1 ++ B1) Rt) w v B1) : Own K H2 (Av (A2 ++ (B1 ++ B2)) Rt) w v B1 :=
  Own.mono w v B1 (fun b o q c => n.go.keep b o q fun z => c.elim (fun c => h.out c z) fun c => c (.inl (List.mem_append_left _ z))) n.go.tups (h.hav n) ow
theorem Sx.ownL (h : Sx K Rt σ0 H A H1 env1 A1 B1) (n : Sx K (RtB B1 Rt) σ H1 A1 H2 env2 A2 B2) (ow : OwnL K H1 (Av (A1 ++ B1) Rt) ws vs B1) : OwnL K H2 (Av (A2 ++ (B1 ++ B2)) Rt) ws vs B1 :=
  OwnL.mono ws vs B1 (fun b o q c => n.go.keep b o q fun z => c.elim (fun c => h.out c z) fun c => c (.inl (List.mem_append_left _ z))) n.go.tups (h.hav n) ow
theorem Sx.own2 (ow : Own K H2 (Av (A2 ++ B2) (RtB B1 Rt)) w v B2) : Own K H2 (Av (A2 ++ (B1 ++ B2)) Rt) w v B2 :=
  Own.mono w v B2 (fun b o q _ => q) (fun _ _ q => q) Sx.hav2 ow
theorem Sx.ownL2 (ow : OwnL K H2 (Av (A2 ++ B2) (RtB B1 Rt)) ws vs B2) : OwnL K H2 (Av (A2 ++ (B1 ++ B2)) Rt) ws vs B2 :=
  OwnL.mono ws vs B2 (fun b o q _ => q) (fun _ _ q => q) Sx.hav2 ow
/-- some owned addresses are let go -/
theorem Sx.avs (hs : ∀ b ∈ B', b ∈ B) : ∀ b, Av (A1 ++ B') Rt b → Av (A1 ++ B) Rt b := fun b z => by
  rcases z with z | z
  · rcases List.mem_append.mp z with z | z
    · exact .inl (List.mem_append_left _ z)
    · exact .inl (List.mem_append_right _ (hs b z))
  · exact .inr z
theorem Sx.drop (h : Sx K Rt σ H A H1 env1 A1 B) (nd : B'.Nodup) (hs : ∀ b ∈ B', b ∈ B) : Sx K Rt σ H A H1 env1 A1 B' where
  go := h.go.sub fun b hb => by
    rcases List.mem_append.mp hb with z | z
    · exact List.mem_append_left _ z
    · exact List.mem_append_right _ (hs b z)
  nd := by
    have d := List.nodup_append.mp h.nd
    exact List.nodup_append.mpr ⟨d.1, nd, fun a ha b hb e => d.2.2 a ha b (hs b hb) e⟩
  rt := fun b hb => h.rt b (by
    rcases List.mem_append.mp hb with z | z
    · exact List.mem_append_left _ z
    · exact List.mem_append_right _ (hs b z))
  th := h.th
  bth := fun b hb => h.bth b (hs b hb)
  re := RE.mono env1 σ A1 (fun b o q _ => q) (fun _ _ q => q) (fun b z => .inl (Sx.avs hs b z)) h.re
theorem Sx.drop0 (h : Sx K Rt σ H A H1 env1 A1 B) : Sx K Rt σ H A H1 env1 A1 [] := h.drop List.nodup_nil fun b hb => by cases hb
theorem Sx.fz0 (h : Sx K Rt σ H A H1 env1 A1 B) (ow : Own K H1 (Av (A1 ++ B) Rt) w v B) : Fz K H1 (Av (A1 ++ []) Rt) w.fz v :=
  Own.fz (Sx.avs fun b hb => by cases hb) w v B (fun b hb z => by
    rcases z with z | z
    · rw [List.append_nil] at z; exact h.out hb z
    · exact h.rt b (List.mem_append_right _ hb) z) ow
/-- a new object -/
theorem Sx.new (h : Sx K Rt σ H A H1 env1 A1 B) (hp : H1 p = none) : Sx K Rt σ H A (upd H1 p o) env1 A1 (p :: B) where
  go := (h.go.upd hp).sub fun b hb => by
    rcases List.mem_append.mp hb with z | z
    · exact List.mem_cons_of_mem _ (List.mem_append_left _ z)
    · rcases List.mem_cons.mp z with rfl | z
      · exact List.mem_cons_self
      · exact List.mem_cons_of_mem _ (List.mem_append_right _ z)
  nd := by
    have d := List.nodup_append.mp h.nd
    have nA : p ∉ A1 := fun z => by
      obtain ⟨o, q, _⟩ := RE.there env1 σ A1 h.re p z
      rw [hp] at q; cases q
    have nB : p ∉ B := fun z => h.bth p z hp
    refine List.nodup_append.mpr ⟨d.1, List.nodup_cons.mpr ⟨nB, d.2.1⟩, fun a ha b hb e => ?_⟩
    rcases List.mem_cons.mp hb with rfl | hb
    · subst e; exact nA ha
    · exact d.2.2 a ha b hb e
  rt := fun b hb z => by
    rcases List.mem_append.mp hb with q | q
    · exact h.rt b (List.mem_append_left _ q) z
    · rcases List.mem_cons.mp q with rfl | q
      · exact h.th b z hp
      · exact h.rt b (List.mem_append_right _ q) z
  th := fun b z => by
    by_cases e : b = p
    · subst e; rw [upd_same]; exact fun q => by cases q
    · rw [upd_ne e]; exact h.th b z
  bth := fun b hb => by
    by_cases e : b = p
    · subst e; rw [upd_same]; exact fun q => by cases q
    · rw [upd_ne e]
      rcases List.mem_cons.mp hb with z | z
      · exact absurd z e
      · exact h.bth b z
  re := RE.mono env1 σ A1 (fun b u q _ => by rw [upd_ne (ne_of_none q hp)]; exact q) (fun b xs q => Rd.mono q fun u q => by rw [upd_ne (ne_of_none q hp)]; exact q) (fun b z => by
    rcases z with z | z
    · rcases List.mem_append.mp z with z | z
      · exact .inl (.inl (List.mem_append_left _ z))
      · rcases List.mem_cons.mp z with rfl | z
        · exact .inr hp
        · exact .inl (.inl (List.mem_append_right _ z))
    · exact .inl (.inr z)) h.re
/-- what is frozen or owned stays so behind a new object -/
theorem Sx.newav (hp : H1 p = none) : ∀ b, Av (A1 ++ (p :: B)) Rt b → Av (A1 ++ B) Rt b ∨ H1 b = none := fun b z => by
  rcases z with z | z
  · rcases List.mem_append.mp z with z | z
    · exact .inl (.inl (List.mem_append_left _ z))
    · rcases List.mem_cons.mp z with rfl | z
      · exact .inr hp
      · exact .inl (.inl (List.mem_append_right _ z))
  · exact .inl (.inr z)
theorem newkeep (hp : H1 p = none) : ∀ b u, H1 b = some u → upd H1 p o b = some u := fun b u q => by rw [upd_ne (ne_of_none q hp)]; exact q
theorem newtups (hp : H1 p = none) : ∀ b xs, Rd H1 b (.tup xs) → Rd (upd H1 p o) b (.tup xs) := fun b xs q => Rd.mono q fun u q => newkeep hp b u q
theorem OwnL.newp (hp : H1 p = none) (ow : OwnL K H1 (Av (A1 ++ B) Rt) ws vs B) : OwnL K (upd H1 p o) (Av (A1 ++ (p :: B)) Rt) ws vs B :=
  OwnL.mono ws vs B (fun b u q _ => newkeep hp b u q) (newtups hp) (Sx.newav hp) ow
theorem FzL.newp (hp : H1 p = none) (ow : FzL K H1 (Av (A1 ++ B) Rt) ts vs) : FzL K (upd H1 p o) (Av (A1 ++ (p :: B)) Rt) ts vs :=
  FzL.mono (fun b u q _ => newkeep hp b u q) (newtups hp) (Sx.newav hp) ts vs ow
theorem RE.slot {av : Addr → Prop} : ∀ (env : Env) (σ : St) (A : List Addr) (i : Nat), RE K H av env σ A → i < env.length → ∃ A1 B A2, A = A1 ++ (B ++ A2) ∧ (env[i]? = some none → B = []) ∧
    (∀ w, env[i]? = some (some w) → ∃ v, σ[i]? = some (some v) ∧ Own K H av w v B) ∧
    ∀ (H' : Hp) (av' : Addr → Prop), (∀ b o, H b = some o → (b ∈ A1 ++ A2 ∨ ¬ av b) → H' b = some o) → (∀ b xs, Rd H b (.tup xs) → Rd H' b (.tup xs)) → (∀ b, av' b → av b ∨ H b = none) →
      (∀ o, RE K H' av' (env.set i none) (σ.set i o) (A1 ++ A2)) ∧ ∀ w' v' B', Own K H' av' w' v' B' → RE K H' av' (env.set i (some w')) (σ.set i (some v')) (A1 ++ (B' ++ A2))
  | [], _, _, _, _, hi => absurd hi (Nat.not_lt_zero _)
  | none :: env, σ, A, 0, h, _ => by
    obtain ⟨o, r, rfl, h⟩ := h
    refine ⟨[], [], A, rfl, fun _ => rfl, fun w e => (by simp at e), fun H' av' k t a => ⟨fun o' => ⟨o', r, rfl, RE.mono env r A k t a h⟩, fun w' v' B' ow => ⟨v', r, B', A, rfl, rfl, ow, RE.mono env r A k t a h⟩⟩⟩
  | none :: env, σ, A, i + 1, h, hi => by
    obtain ⟨o, r, rfl, h⟩ := h
    obtain ⟨A1, B, A2, eA, hn, hw, hu⟩ := RE.slot env r A i h (by simpa using hi)
    refine ⟨A1, B, A2, eA, fun e => hn (by simpa using e), fun w e => hw w (by simpa using e), fun H' av' k t a => ⟨fun o' => ⟨o, r.set i o', rfl, (hu H' av' k t a).1 o'⟩, fun w' v' B' ow => ⟨o, r.set i (some v'), rfl, (hu H' av' k t a).2 w' v' B' ow⟩⟩⟩
  | some w :: env, σ, A, 0, h, _ => by
    obtain ⟨v, r, B, D, rfl, rfl, h1, h2⟩ := h
    refine ⟨[], B, D, rfl, fun e => (by simp at e), fun w' e => ?_, fun H' av' k t a => ⟨fun o' => ⟨o', r, rfl, RE.mono env r D k t a h2⟩, fun w' v' B' ow => ⟨v', r, B', D, rfl, rfl, ow, RE.mono env r D k t a h2⟩⟩⟩
    have e' : w = w' := by simpa using e
    subst e'
    exact ⟨v, rfl, h1⟩
  | some w :: env, σ, A, i + 1, h, hi => by
    obtain ⟨v, r, B0, D, rfl, rfl, h1, h2⟩ := h
    obtain ⟨A1, B, A2, eA, hn, hw, hu⟩ := RE.slot env r D i h2 (by simpa using hi)
    subst eA
    have own : ∀ (H' : Hp) (av' : Addr → Prop), (∀ b o, H b = some o → (b ∈ (B0 ++ A1) ++ A2 ∨ ¬ av b) → H' b = some o) → (∀ b xs, Rd H b (.tup xs) → Rd H' b (.tup xs)) → (∀ b, av' b → av b ∨ H b = none) → Own K H' av' w v B0 := fun H' av' k t a =>
      Own.mono w v B0 (fun b o q c => k b o q (c.imp (fun c => List.mem_append_left _ (List.mem_append_left _ c)) id)) t a h1
    have k2 : ∀ (H' : Hp), (∀ b o, H b = some o → (b ∈ (B0 ++ A1) ++ A2 ∨ ¬ av b) → H' b = some o) → (∀ b o, H b = some o → (b ∈ A1 ++ A2 ∨ ¬ av b) → H' b = some o) := fun H' k b o q c => k b o q (c.imp (fun c => by rw [List.append_assoc]; exact List.mem_append_right _ c) id)
    refine ⟨B0 ++ A1, B, A2, by rw [List.append_assoc], fun e => hn (by simpa using e), fun w' e => hw w' (by simpa using e), fun H' av' k t a => ⟨fun o' => ⟨v, r.set i o', B0, A1 ++ A2, rfl, by rw [List.append_assoc], own H' av' k t a, (hu H' av' (k2 H' k) t a).1 o'⟩,
      fun w' v' B' ow => ⟨v, r.set i (some v'), B0, A1 ++ (B' ++ A2), rfl, by rw [List.append_assoc], own H' av' k t a, (hu H' av' (k2 H' k) t a).2 w' v' B' ow⟩⟩⟩
theorem set_same {α : Type} : ∀ {l : List α} {i : Nat} {x : α}, l[i]? = some x → l.set i x = l
  | [], _, _, h => by simp at h
  | _ :: _, 0, _, h => by simp at h; subst h; rfl
  | a :: l, i + 1, x, h => by rw [List.set_cons_succ, set_same (l := l) (i := i) (by simpa using h)]
/-- the same heap, fewer owned ones -/
theorem Rl.less (h : Rl K Rt H σ env A) (nd : A1.Nodup) (sub : ∀ b ∈ A1, b ∈ A) (re : RE K H (Av A1 Rt) env1 σ A1) : Sx K Rt σ H A H env1 A1 [] where
  go := by rw [List.append_nil]; exact Go.refl.sub sub
  nd := by rw [List.append_nil]; exact nd
  rt := by rw [List.append_nil]; exact fun b hb => h.rt b (sub b hb)
  th := h.th
  bth := fun b hb => by cases hb
  re := by rw [List.append_nil]; exact re
theorem nodup_mid {A1 B A2 : List Addr} (h : (A1 ++ (B ++ A2)).Nodup) : (A1 ++ A2).Nodup ∧ ∀ b ∈ B, b ∉ A1 ++ A2 := by
  have d := List.nodup_append.mp h
  have d2 := List.nodup_append.mp d.2.1
  refine ⟨List.nodup_append.mpr ⟨d.1, d2.2.1, fun a ha b hb e => d.2.2 a ha b (List.mem_append_right _ hb) e⟩, fun b hb z => ?_⟩
  rcases List.mem_append.mp z with z | z
  · exact d.2.2 b z b (List.mem_append_left _ hb) rfl
  · exact d2.2.2 b hb b z rfl
theorem FzL.own {av : Addr → Prop} : ∀ (ts : List T) (vs : List V), FzL K H av ts vs → OwnL K H av (ts.map W.val) vs []
  | [], _, h => ⟨h, rfl⟩
  | t :: ts, vs, h => by
    obtain ⟨v, r, e, h1, h2⟩ := h
    exact ⟨v, r, [], [], e, rfl, ⟨rfl, h1⟩, FzL.own ts r h2⟩
end
end Ev
/-! Ev3: the operations by values. -/
namespace Ev
open PySem L2

/-- a value was made: H' has all of H, and what is new -/
structure Mk (K : PySem.W.Frag) (H : Hp) (av : Addr → Prop) (w : W) (v : V) (H' : Hp) (B : List Addr) : Prop where
  ext : ∀ b o, H b = some o → H' b = some o
  nd : B.Nodup
  fresh : ∀ b ∈ B, H b = none
  own : Own K H' (fun b => b ∈ B ∨ av b) w v B
section
variable {K : PySem.W.Frag} {H : Hp} {av : Addr → Prop} {t : T} {v : V}
theorem Mk.same (h : Fz K H av t v) : Mk K H av (.val t) v H [] :=
  ⟨fun _ _ q => q, List.nodup_nil, fun b hb => (by cases hb), ⟨rfl, Fz.mono (fun _ _ q _ => q) (fun _ _ q => q) (fun b z => .inl (z.elim (fun z => (by cases z)) id)) t v h⟩⟩
theorem Mk.int (i : Int) : Mk K H av (.val (.int i)) (.int i) H [] := Mk.same rfl
theorem Mk.bl (b : Bool) : Mk K H av (.val (.bl b)) (.bl b) H [] := Mk.same rfl
theorem Mk.lst {p : Addr} {xs : List V} {ws : List W} (hp : H p = none) (h : OwnL K H av ws xs []) : Mk K H av (.lst ws) (.ref p) (upd H p (.lst xs)) [p] where
  ext := fun b o q => newkeep hp b o q
  nd := List.nodup_cons.mpr ⟨fun z => (by cases z), List.nodup_nil⟩
  fresh := fun b hb => by
    rcases List.mem_cons.mp hb with rfl | z
    · exact hp
    · cases z
  own := ⟨p, xs, [], rfl, rfl, upd_same, OwnL.mono ws xs [] (fun b o q _ => newkeep hp b o q) (newtups hp) (fun b z => by
    rcases z with z | z
    · rcases List.mem_cons.mp z with rfl | z
      · exact .inr hp
      · cases z
    · exact .inl z) h⟩
theorem Mk.fzl {p : Addr} {xs : List V} {ts : List T} (hp : H p = none) (h : FzL K H av ts xs) : Mk K H av (.lst (ts.map .val)) (.ref p) (upd H p (.lst xs)) [p] := Mk.lst hp (FzL.own ts xs h)
theorem Mk.tup {p : Addr} {xs : List V} {ts : List T} (hp : H p = none) (h : FzL K H av ts xs) : Mk K H av (.val (.tup ts)) (.ref p) (upd H p (.tup xs)) [] where
  ext := fun b o q => newkeep hp b o q
  nd := List.nodup_nil
  fresh := fun b hb => by cases hb
  own := ⟨rfl, p, xs, rfl, SqT.of upd_same, FzL.mono (fun b o q _ => newkeep hp b o q) (newtups hp) (fun b z => .inl (z.elim (fun z => by cases z) id)) ts xs h⟩
theorem FzL.append {ts us : List T} {xs ys : List V} (h1 : FzL K H av ts xs) (h2 : FzL K H av us ys) : FzL K H av (ts ++ us) (xs ++ ys) := by
  induction ts generalizing xs with
  | nil => cases (show xs = [] from h1); exact h2
  | cons t ts ih =>
    obtain ⟨v, r, rfl, a, b⟩ := h1
    exact ⟨v, r ++ ys, rfl, a, ih b⟩
theorem FzL.len {ts : List T} {xs : List V} (h1 : FzL K H av ts xs) : ts.length = xs.length := by
  induction ts generalizing xs with
  | nil => cases (show xs = [] from h1); rfl
  | cons t ts ih =>
    obtain ⟨v, r, rfl, a, b⟩ := h1
    rw [List.length_cons, List.length_cons, ih b]
theorem FzL.get {ts : List T} {xs : List V} {i : Nat} {t : T} (h1 : FzL K H av ts xs) (e : ts[i]? = some t) : ∃ v, xs[i]? = some v ∧ Fz K H av t v := by
  induction ts generalizing xs i with
  | nil => simp at e
  | cons u ts ih =>
    obtain ⟨v, r, rfl, a, b⟩ := h1
    cases i with
    | zero => simp at e; subst e; exact ⟨v, rfl, a⟩
    | succ i => exact ih (i := i) b (by simpa using e)
theorem FzL.drop {ts : List T} {xs : List V} (h : FzL K H av ts xs) : ∀ n, FzL K H av (ts.drop n) (xs.drop n) := by
  induction ts generalizing xs with
  | nil => intro n; cases (show xs = [] from h); simp; rfl
  | cons t ts ih =>
    obtain ⟨v, r, rfl, a, b⟩ := h
    intro n
    cases n with
    | zero => exact ⟨v, r, rfl, a, b⟩
    | succ n => exact ih b n
theorem FzL.take {ts : List T} {xs : List V} (h : FzL K H av ts xs) : ∀ n, FzL K H av (ts.take n) (xs.take n) := by
  induction ts generalizing xs with
  | nil => intro n; cases (show xs = [] from h); simp; rfl
  | cons t ts ih =>
    obtain ⟨v, r, rfl, a, b⟩ := h
    intro n
    cases n with
    | zero => rfl
    | succ n => exact ⟨v, r.take n, rfl, a, ih b n⟩
theorem FzL.ints {ts : List T} {xs : List V} {is : List Int} (h : FzL K H av ts xs) (e : T.ints ts = some is) : xs = is.map V.int := by
  induction ts generalizing xs is with
  | nil => cases (show xs = [] from h); cases e; rfl
  | cons t ts ih =>
    obtain ⟨v, r, rfl, a, b⟩ := h
    cases t with
    | int i =>
      obtain ⟨js, e1, e2⟩ := Option.map_eq_some_iff.mp (show (T.ints ts).map (i :: ·) = some is from e)
      subst e2
      rw [ih b e1, show v = V.int i from a]
      rfl
    | _ => cases e
theorem FzL.bls {ts : List T} {xs : List V} {bs : List Bool} (h : FzL K H av ts xs) (e : T.bls ts = some bs) : xs = bs.map V.bl := by
  induction ts generalizing xs bs with
  | nil => cases (show xs = [] from h); cases e; rfl
  | cons t ts ih =>
    obtain ⟨v, r, rfl, a, b⟩ := h
    cases t with
    | bl i =>
      obtain ⟨js, e1, e2⟩ := Option.map_eq_some_iff.mp (show (T.bls ts).map (i :: ·) = some bs from e)
      subst e2
      rw [ih b e1, show v = V.bl i from a]
      rfl
    | _ => cases e
mutual
theorem Fz.dp : ∀ (t : T) (v : V) (d : PyData), t.pd = some d → Fz K H av t v → Dp K H v d
  | .non, v, d, e, h => by cases e; cases (show v = _ from h); exact .non
  | .bl b, v, d, e, h => by cases e; cases (show v = _ from h); exact .bl b
  | .int i, v, d, e, h => by cases e; cases (show v = _ from h); exact .int i
  | .str x, v, d, e, h => by cases e; cases (show v = _ from h); exact .str x
  | .tup ts, v, d, e, h => by
    obtain ⟨ds, e1, rfl⟩ := Option.map_eq_some_iff.mp (show (pds ts).map PyData.tuple = some d from e)
    obtain ⟨a, xs, rfl, hs, hl⟩ := h
    exact .tup hs (FzL.dp ts xs ds e1 hl)
  | .lst ts, v, d, e, h => by
    obtain ⟨ds, e1, rfl⟩ := Option.map_eq_some_iff.mp (show (pds ts).map PyData.list = some d from e)
    obtain ⟨a, xs, rfl, hs, _, hl⟩ := h
    exact .lst (.inl hs) (FzL.dp ts xs ds e1 hl)
  | .ty _, _, _, e, _ => by cases e
  | .gl _, _, _, e, _ => by cases e
  | .nd _ _, _, _, e, _ => by cases e
  | .set _, _, _, e, _ => by cases e
theorem FzL.dp : ∀ (ts : List T) (vs : List V) (ds : List PyData), pds ts = some ds → FzL K H av ts vs → DpAll K H vs ds
  | [], vs, ds, e, h => by cases e; cases (show vs = [] from h); exact .nil
  | t :: ts, vs, ds, e, h => by
    obtain ⟨v, r, rfl, h1, h2⟩ := h
    have e' : (match t.pd, pds ts with | some d, some ds => some (d :: ds) | _, _ => none) = some ds := e
    cases e1 : t.pd with
    | none => rw [e1] at e'; cases e'
    | some d =>
      rw [e1] at e'
      cases e2 : pds ts with
      | none => rw [e2] at e'; cases e'
      | some ds' =>
        rw [e2] at e'
        cases e'
        exact .cons (Fz.dp t v d e1 h1) (FzL.dp ts r ds' e2 h2)
end
end

/-! ### two operands -/
def rP2 (K : PySem.W.Frag) (f : T → T → Option W) : R2 := fun x y H Q => ∃ av tx ty w, Fz K H av tx x ∧ Fz K H av ty y ∧ f tx ty = some w ∧ ∀ v H' B, Mk K H av w v H' B → Q v H'
def rP1 (K : PySem.W.Frag) (f : T → Option W) : V → Hp → VK → Prop := fun x H Q => ∃ av tx w, Fz K H av tx x ∧ f tx = some w ∧ ∀ v H' B, Mk K H av w v H' B → Q v H'
def rPL (K : PySem.W.Frag) (f : List T → Option W) : List V → Hp → VK → Prop := fun xs H Q => ∃ av ts w, FzL K H av ts xs ∧ f ts = some w ∧ ∀ v H' B, Mk K H av w v H' B → Q v H'
section
variable {X : Cx}
theorem OpR.imp {f : Value → Value → Sem Value} {r r' : R2} (h : OpR X f r) (i : ∀ x y H Q, r' x y H Q → r x y H Q) : OpR X f r' :=
  fun pins s σ H x y v u Q I rx ry q => h pins s σ H x y v u Q I rx ry (i x y H Q q)
theorem mulOk_ok {i j : Int} (h : mulOk i j = true) : CMul i j := by
  unfold mulOk at h
  simp only [Bool.or_eq_true, Bool.and_eq_true, decide_eq_true_eq] at h
  unfold CMul
  omega
theorem Inv.lstR {pins : List (Addr × Obj)} {σ : St} {H : Hp} {s : Shared} {l : Addr} {xs : List V} (I : Inv X pins σ H s) (h : Rd H l (.lst xs)) :
    xs.length ≤ sizeLine ∧ ∃ (its : List Value) (n : Nat), Vals xs its ∧ xs.length = its.length ∧ s.heap.get? l = some { cls := .type "list", data := .seq its.toArray n } := by
  obtain ⟨z, its, n, r, e⟩ := h.ok I.hok
  exact ⟨z, its, n, r, r.length, e⟩
theorem op_catR : OpR X (binaryOp .Add) (fun x y H Q => ∃ l b xs zs, x = .ref l ∧ y = .ref b ∧ Rd H l (.lst xs) ∧ Rd H b (.lst zs) ∧ xs.length + zs.length ≤ sizeLine ∧ ∀ p, H p = none → Q (.ref p) (upd H p (.lst (xs ++ zs)))) := by
  intro pins s σ H x y v u Q I rx ry h
  obtain ⟨l, b, xs, zs, rfl, rfl, hH, hB, hz, q⟩ := h
  cases rx
  cases ry
  obtain ⟨z, its, n, r, hl, e⟩ := Ev.Inv.lstR I hH
  obtain ⟨z2, its2, n2, r2, hl2, e2⟩ := Ev.Inv.lstR I hB
  refine PySem.P.add_list e e2 ?_ (by rw [List.size_toArray, List.size_toArray]; omega)
  have ea : its.toArray ++ its2.toArray = (its ++ its2).toArray := by simp
  rw [ea]
  exact ⟨.ref _, _, I.lnew (t' := s.toks) (r.append r2) (by rw [List.length_append]; omega), rfl, q _ I.fresh⟩
theorem op_repR : OpR X (binaryOp .Mult) (fun x y H Q => ∃ l k xs, x = .ref l ∧ y = .int k ∧ Rd H l (.lst xs) ∧ (-8388608 ≤ k ∧ k ≤ 8388608) ∧ xs.length * k.toNat ≤ sizeLine ∧ ∀ p, H p = none → Q (.ref p) (upd H p (.lst (List.replicate k.toNat xs).flatten))) := by
  intro pins s σ H x y v u Q I rx ry h
  obtain ⟨l, k, xs, rfl, rfl, hH, hk, hz, q⟩ := h
  cases rx
  obtain ⟨t, rfl⟩ := ry
  obtain ⟨z, its, n, r, hl, e⟩ := Ev.Inv.lstR I hH
  have l1 : its.toArray.size * k.toNat ≤ sizeLine := by rw [List.size_toArray, ← hl]; exact hz
  have l2 : ¬ its.toArray.size * k.toNat > (2 ^ 63 - 1) / 8 := by
    have c : (sizeLine : Nat) ≤ (2 ^ 63 - 1) / 8 := by decide
    omega
  have l3 : ¬ (!Builtin.List.listFitsIndex k) = true := by
    rw [fitsIndex_both (by omega) (by omega)]
    exact Bool.false_ne_true
  have l4 : ¬ Builtin.List.listTooLong (its.toArray.size * k.toNat) = true := by
    rw [notLongL l1]
    exact Bool.false_ne_true
  have l5 : List.foldl (fun x1 x2 => x1 ++ x2) #[] (List.replicate (if its.toArray.isEmpty = true then 0 else k.toNat) its.toArray) = (List.replicate k.toNat its).flatten.toArray := by
    have f0 : ∀ m : Nat, List.foldl (fun x1 x2 => x1 ++ x2) #[] (List.replicate m its.toArray) = (List.replicate m its).flatten.toArray := fun m => by
      have f1 := foldl_rep its m []
      rw [List.nil_append] at f1
      exact f1
    rw [f0]
    cases its with
    | nil => simp
    | cons a r' => rw [if_neg (by simp)]
  refine wpAny_binaryOp_repeat_ref (T := "list") (U := "int") (by decide) ⟨_, e, rfl⟩ (fun s' => typeIs_int s' k t) noFill_list_mul F.fills_int_mul F.slot_int_rmul repeat_list F.slot_int_index.lookup
    (call_meets F.slot_int_rmul (typeIs_int s k t) F.entry_int_rmul (F.args_int_rmul_2 _ _) (int___rmul___int_list k t l its.toArray n)
      ⟨e, rfl, ⟨_, e, rfl⟩, call_meets F.slot_list_mul ⟨_, e, rfl⟩ F.entry_list_mul (F.args_list_mul_2 _ _) (AutoListH.list___mul___list_int_3 l its.toArray n k t l3 l2 l4) ⟨e, ?_⟩⟩)
  rw [l5]
  exact ⟨.ref _, _, I.lnew (t' := s.toks) (r.rep k.toNat) (by rw [PyProof.Rows.lm_len_rep_flat, Nat.mul_comm]; exact hz), rfl, q _ I.fresh⟩
theorem FzL.rep {K : PySem.W.Frag} {H : Hp} {av : Addr → Prop} {ts : List T} {xs : List V} (h : FzL K H av ts xs) : ∀ n, FzL K H av (List.replicate n ts).flatten (List.replicate n xs).flatten
  | 0 => rfl
  | n + 1 => by
    rw [List.replicate_succ, List.replicate_succ, List.flatten_cons, List.flatten_cons]
    exact h.append (FzL.rep h n)
/-- an operator -/
theorem op_all (o : Operator) : OpR X (binaryOp o) (rP2 X.K (opT o)) := by
  intro pins s σ H x y v u Q I rx ry h
  obtain ⟨av, tx, ty, w, hx, hy, e, q⟩ := h
  have intc : ∀ (i j : Int), tx = .int i → ty = .int j → wpAny (model X.prog X.w) X.A (binaryOp o v u) (EP X pins σ Q) X.xe s := by
    intro i j e1 e2
    subst e1 e2
    cases (show x = .int i from hx)
    cases (show y = .int j from hy)
    obtain ⟨k, ek, ew⟩ := Option.map_eq_some_iff.mp (show (opInt o i j).map (fun k => W.val (.int k)) = some w from e)
    subst ew
    have fin : Q (.int k) H := q (.int k) H [] (Mk.int k)
    cases o with
    | Add => cases ek; exact op_add pins s σ H _ _ v u Q I rx ry ⟨i, j, rfl, rfl, fin⟩
    | Sub => cases ek; exact op_sub pins s σ H _ _ v u Q I rx ry ⟨i, j, rfl, rfl, fin⟩
    | Mult =>
      have ek' : (if mulOk i j = true then some (i * j) else none) = some k := ek
      by_cases c : mulOk i j = true
      · rw [if_pos c] at ek'; cases ek'
        exact op_mul pins s σ H _ _ v u Q I rx ry ⟨i, j, rfl, rfl, mulOk_ok c, fin⟩
      · rw [if_neg c] at ek'; cases ek'
    | FloorDiv =>
      have ek' : (if (decide (0 < j) && decide (j < 1073741824)) = true then some (i / j) else none) = some k := ek
      by_cases c : (decide (0 < j) && decide (j < 1073741824)) = true
      · rw [if_pos c] at ek'; cases ek'
        simp only [Bool.and_eq_true, decide_eq_true_eq] at c
        exact op_fdiv pins s σ H _ _ v u Q I rx ry ⟨i, j, rfl, rfl, c, fin⟩
      · rw [if_neg c] at ek'; cases ek'
    | Mod =>
      have ek' : (if decide (0 < j) = true then some (i % j) else none) = some k := ek
      by_cases c : decide (0 < j) = true
      · rw [if_pos c] at ek'; cases ek'
        exact op_mod pins s σ H _ _ v u Q I rx ry ⟨i, j, rfl, rfl, of_decide_eq_true c, fin⟩
      · rw [if_neg c] at ek'; cases ek'
    | Pow =>
      have ek' : (if (decide (0 ≤ j) && decide (j ≤ 1000000) && decide (i.natAbs < 18446744073709551616)) = true then some (i ^ j.toNat) else none) = some k := ek
      by_cases c : (decide (0 ≤ j) && decide (j ≤ 1000000) && decide (i.natAbs < 18446744073709551616)) = true
      · rw [if_pos c] at ek'; cases ek'
        simp only [Bool.and_eq_true, decide_eq_true_eq] at c
        exact op_pow pins s σ H _ _ v u Q I rx ry ⟨i, j, rfl, rfl, ⟨c.1.1, c.1.2, c.2⟩, fin⟩
      · rw [if_neg c] at ek'; cases ek'
    | _ => cases ek
  cases tx with
  | int i =>
    cases ty with
    | int j => exact intc i j rfl rfl
    | _ => cases e
  | lst ts =>
    cases ty with
    | lst us =>
      cases o with
      | Add =>
        have e' : (if decide (ts.length + us.length ≤ 16777216) = true then some (W.lst ((ts ++ us).map .val)) else none) = some w := e
        by_cases c : decide (ts.length + us.length ≤ 16777216) = true
        · rw [if_pos c] at e'; cases e'
          have c := of_decide_eq_true c
          obtain ⟨a, xs, rfl, ha, _, hl⟩ := hx
          obtain ⟨b, ys, rfl, hb, _, hm⟩ := hy
          refine op_catR pins s σ H _ _ v u Q I rx ry ⟨a, b, xs, ys, rfl, rfl, ha, hb, ?_, fun p hp => q _ _ _ (Mk.fzl hp (hl.append hm))⟩
          rw [sizeLine_eq, ← hl.len, ← hm.len]
          exact c
        · rw [if_neg c] at e'; cases e'
      | _ => cases e
    | int k =>
      cases o with
      | Mult =>
        have e' : (if (decide (-8388608 ≤ k) && (decide (k ≤ 8388608) && decide (ts.length * k.toNat ≤ 16777216))) = true then some (W.lst ((List.replicate k.toNat ts).flatten.map .val)) else none) = some w := e
        by_cases c : (decide (-8388608 ≤ k) && (decide (k ≤ 8388608) && decide (ts.length * k.toNat ≤ 16777216))) = true
        · rw [if_pos c] at e'; cases e'
          simp only [Bool.and_eq_true, decide_eq_true_eq] at c
          obtain ⟨a, xs, rfl, ha, _, hl⟩ := hx
          cases (show y = .int k from hy)
          refine op_repR pins s σ H _ _ v u Q I rx ry ⟨a, k, xs, rfl, rfl, ha, ⟨c.1, c.2.1⟩, ?_, fun p hp => q _ _ _ (Mk.fzl hp (hl.rep _))⟩
          rw [sizeLine_eq, ← hl.len]
          exact c.2.2
        · rw [if_neg c] at e'; cases e'
      | _ => cases e
    | _ => cases e
  | _ => cases e
theorem DctO.get {K : PySem.W.Frag} {H : Hp} {av : Addr → Prop} {ks : List Key} {ts : List T} {xs : List V} {o : HO} {k : Key} {kvs : List (Key × V)} (e1 : kvs.map (·.1) = ks) (e2 : kvs.map (·.2) = xs) (hl : FzL K H av ts xs) :
    (getN ks ts k = none ∧ valV kvs k = none ∧ (ks.any fun j => decide (j = k)) = false) ∨ ∃ t v, getN ks ts k = some t ∧ valV kvs k = some v ∧ Fz K H av t v ∧ (ks.any fun j => decide (j = k)) = true := by
  induction kvs generalizing ks ts xs with
  | nil =>
    subst e1
    refine .inl ⟨?_, rfl, rfl⟩
    cases ts <;> rfl
  | cons p r ih =>
    subst e1 e2
    cases ts with
    | nil => exact absurd hl.len (by simp)
    | cons t ts =>
      obtain ⟨v, r', e, h1, h2⟩ := hl
      have e0 : p.2 = v := (List.cons.inj e).1
      have e9 : r.map (·.2) = r' := (List.cons.inj e).2
      by_cases c : p.1 = k
      · refine .inr ⟨t, v, ?_, ?_, h1, ?_⟩
        · show (if p.1 = k then some t else _) = _
          rw [if_pos c]
        · rw [valV_pos c, e0]
        · show (decide (p.1 = k) || _) = true
          rw [decide_eq_true c]; rfl
      · have g1 : getN (p.1 :: r.map (·.1)) (t :: ts) k = getN (r.map (·.1)) ts k := by
          show (if p.1 = k then some t else _) = _
          rw [if_neg c]
        have g2 : ((p.1 :: r.map (·.1)).any fun j => decide (j = k)) = ((r.map (·.1)).any fun j => decide (j = k)) := by
          show (decide (p.1 = k) || _) = _
          rw [decide_eq_false c]; rfl
        show (getN (p.1 :: r.map (·.1)) (t :: ts) k = none ∧ _ ∧ ((p.1 :: r.map (·.1)).any fun j => decide (j = k)) = false) ∨ ∃ t' v', getN (p.1 :: r.map (·.1)) (t :: ts) k = some t' ∧ _ ∧ _ ∧ ((p.1 :: r.map (·.1)).any fun j => decide (j = k)) = true
        rw [g1, g2, valV_neg c]
        exact ih rfl e9 h2
/-- a key by its tree -/
theorem key_fz {K : PySem.W.Frag} {H : Hp} {av : Addr → Prop} {t : T} {v : V} {k : Key} (h : Fz K H av t v) (e : keyT t = some k) : v = kV k := by
  cases t with
  | int i => cases e; exact h
  | str x => cases e; exact h
  | _ => cases e
theorem tKey_fz {K : PySem.W.Frag} {H : Hp} {av : Addr → Prop} {k : Key} : Fz K H av (tKey k) (kV k) := by
  cases k <;> exact rfl
/-- a comparison -/
theorem cmp_all (hu : X.A.units + 64 < cLine) (o : CmpOp) : OpR X (compareOp o) (rP2 X.K fun a b => (cmpT o a b).map fun b => .val (.bl b)) := by
  intro pins s σ H x y v u Q I rx ry h
  obtain ⟨av, tx, ty, w, hx, hy, e, q⟩ := h
  obtain ⟨k, ek, ew⟩ := Option.map_eq_some_iff.mp e
  subst ew
  have fin : Q (.bl k) H := q (.bl k) H [] (Mk.bl k)
  have eqs : ∀ (b : Bool), eqT tx ty = some b → ∃ d e', Dp X.K H x d ∧ Dp X.K H y e' ∧ SeqAt.shaped d = true ∧ SeqAt.shaped e' = true ∧ PyData.eqv d e' = b := by
    intro b eb
    unfold eqT at eb
    cases e1 : tx.pd with
    | none => rw [e1] at eb; cases eb
    | some d =>
      cases e2 : ty.pd with
      | none => rw [e1, e2] at eb; cases eb
      | some d2 =>
        rw [e1, e2] at eb
        have eb' : (if (SeqAt.shaped d && SeqAt.shaped d2) = true then some (PyData.eqv d d2) else none) = some b := eb
        by_cases c : (SeqAt.shaped d && SeqAt.shaped d2) = true
        · rw [if_pos c] at eb'
          rw [Bool.and_eq_true] at c
          exact ⟨d, d2, Fz.dp tx x d e1 hx, Fz.dp ty y d2 e2 hy, c.1, c.2, Option.some.inj eb'⟩
        · rw [if_neg c] at eb'; cases eb'
  have intc : ∀ (i j : Int), tx = .int i → ty = .int j → cmpInt o i j = some k → wpAny (model X.prog X.w) X.A (compareOp o v u) (EP X pins σ Q) X.xe s := by
    intro i j e1 e2 ec
    subst e1 e2
    cases (show x = .int i from hx)
    cases (show y = .int j from hy)
    cases o with
    | Lt => cases ec; exact op_lt pins s σ H _ _ v u Q I rx ry ⟨i, j, rfl, rfl, fin⟩
    | LtE => cases ec; exact op_le pins s σ H _ _ v u Q I rx ry ⟨i, j, rfl, rfl, fin⟩
    | Gt => cases ec; exact op_gt pins s σ H _ _ v u Q I rx ry ⟨i, j, rfl, rfl, fin⟩
    | GtE => cases ec; exact op_ge pins s σ H _ _ v u Q I rx ry ⟨i, j, rfl, rfl, fin⟩
    | _ => cases ec
  have rest : cmpI2 o tx ty = some k → wpAny (model X.prog X.w) X.A (compareOp o v u) (EP X pins σ Q) X.xe s := by
    intro er
    cases tx with
    | int i =>
      cases ty with
      | int j => exact intc i j rfl rfl er
      | _ => cases er
    | _ => cases er
  have isn : ∀ {t : T} {z : V}, Fz X.K H av t z → decide (z = .non) = t.isN := by
    intro t z hz
    cases t with
    | non => cases (show z = _ from hz); rfl
    | bl b => cases (show z = _ from hz); rfl
    | int b => cases (show z = _ from hz); rfl
    | str b => cases (show z = _ from hz); rfl
    | ty b => cases (show z = _ from hz); rfl
    | gl b => cases hz
    | tup ts => obtain ⟨a, xs, rfl, _⟩ := hz; rfl
    | lst ts => obtain ⟨a, xs, rfl, _⟩ := hz; rfl
    | set ts => obtain ⟨a, S, n, is, rfl, _⟩ := hz; rfl
    | nd n ts => obtain ⟨a, xs, o, rfl, _⟩ := hz; rfl
    | scr is => obtain ⟨a, rfl, _⟩ := hz; rfl
  have ins : ∀ b, inAny tx ty = some b → (∃ d ds, Dp X.K H x d ∧ (Dp X.K H y (.list ds) ∨ Dp X.K H y (.tuple ds)) ∧ SeqAt.shaped d = true ∧ SeqAt.shaped (.list ds) = true ∧ d.depth ≤ 60 ∧ (ds.any fun z => PyData.eqv z d) = b) ∨
      ∃ a o, y = .ref a ∧ DGet H a x o ∧ o.isSome = b := by
    intro b eb
    have row : ∀ ts : List T, inT tx ts = some b → ∃ d ds, Dp X.K H x d ∧ pds ts = some ds ∧ SeqAt.shaped d = true ∧ SeqAt.shaped (.list ds) = true ∧ d.depth ≤ 60 ∧ (ds.any fun z => PyData.eqv z d) = b := by
      intro ts er
      unfold inT at er
      cases e1 : tx.pd with
      | none => rw [e1] at er; cases er
      | some d =>
        cases e2 : pds ts with
        | none => rw [e1, e2] at er; cases er
        | some ds =>
          rw [e1, e2] at er
          have er' : (if (SeqAt.shaped d && (SeqAt.shaped (.list ds) && decide (d.depth ≤ 60))) = true then some (ds.any fun z => PyData.eqv z d) else none) = some b := er
          by_cases c : (SeqAt.shaped d && (SeqAt.shaped (.list ds) && decide (d.depth ≤ 60))) = true
          · rw [if_pos c] at er'
            simp only [Bool.and_eq_true, decide_eq_true_eq] at c
            exact ⟨d, ds, Fz.dp tx x d e1 hx, rfl, c.1, c.2.1, c.2.2, Option.some.inj er'⟩
          · rw [if_neg c] at er'; cases er'
    cases ty with
    | lst ts =>
      obtain ⟨d, ds, h1, h2, h3, h4, h5, h6⟩ := row ts eb
      exact .inl ⟨d, ds, h1, .inl (Fz.dp (.lst ts) y (.list ds) (by show (pds ts).map PyData.list = _; rw [h2]; rfl) hy), h3, h4, h5, h6⟩
    | tup ts =>
      obtain ⟨d, ds, h1, h2, h3, h4, h5, h6⟩ := row ts eb
      exact .inl ⟨d, ds, h1, .inr (Fz.dp (.tup ts) y (.tuple ds) (by show (pds ts).map PyData.tuple = _; rw [h2]; rfl) hy), h3, h4, h5, h6⟩
    | nd n ts =>
      obtain ⟨ks, ek1, e2⟩ := Option.bind_eq_some_iff.mp (show (n.keys.bind fun ks => (keyT tx).map fun k => ks.any fun j => decide (j = k)) = some b from eb)
      obtain ⟨kk, ek2, e3⟩ := Option.map_eq_some_iff.mp e2
      obtain ⟨a, xs, o, rfl, at_, _, no, hl⟩ := hy
      obtain ⟨kvs, rfl, f1, f2, _⟩ := no.dct ek1
      refine .inr ⟨a, valV kvs kk, rfl, .inl ⟨kvs, kk, at_.rd, key_fz hx ek2, rfl⟩, ?_⟩
      rcases DctO.get (o := .dK kvs) (k := kk) f1 f2 hl with ⟨_, g2, g3⟩ | ⟨_, _, _, g2, _, g3⟩
      · rw [g2, ← e3, g3]; rfl
      · rw [g2, ← e3, g3]; rfl
    | _ => cases eb
  have non : ty.isN = true → y = .non := fun z => by
    have := isn hy
    rw [z] at this
    exact of_decide_eq_true this
  cases o with
  | Eq =>
    obtain ⟨d, e', h1, h2, h3, h4, h5⟩ := eqs k ek
    exact op_eqD hu pins s σ H x y v u Q I rx ry ⟨d, e', h1, h2, h3, h4, by rw [h5]; exact fin⟩
  | NotEq =>
    obtain ⟨b, eb, ekb⟩ := Option.map_eq_some_iff.mp (show (eqT tx ty).map (!·) = some k from ek)
    obtain ⟨d, e', h1, h2, h3, h4, h5⟩ := eqs b eb
    exact op_neD hu pins s σ H x y v u Q I rx ry ⟨d, e', h1, h2, h3, h4, by rw [h5, ekb]; exact fin⟩
  | Lt => exact rest ek
  | LtE => exact rest ek
  | Gt => exact rest ek
  | GtE => exact rest ek
  | Is =>
    have ek' : (if ty.isN = true then some tx.isN else none) = some k := ek
    by_cases c : ty.isN = true
    · rw [if_pos c] at ek'
      cases ek'
      exact op_isN pins s σ H x y v u Q I rx ry ⟨non c, by rw [isn hx]; exact fin⟩
    · rw [if_neg c] at ek'; cases ek'
  | IsNot =>
    have ek' : (if ty.isN = true then some (!tx.isN) else none) = some k := ek
    by_cases c : ty.isN = true
    · rw [if_pos c] at ek'
      cases ek'
      exact op_notN pins s σ H x y v u Q I rx ry ⟨non c, by rw [isn hx]; exact fin⟩
    · rw [if_neg c] at ek'; cases ek'
  | In =>
    rcases ins k ek with ⟨d, ds, h1, h2, h3, h4, h5, h6⟩ | ⟨a, o, rfl, g, h6⟩
    · obtain ⟨as, r1⟩ := Dp.reads I d x v h1 rx
      have hu' : X.A.units + 1 + min (PyData.depthAll ds) d.depth < cLine := by omega
      rcases h2 with h2 | h2
      · obtain ⟨bs, r2⟩ := Dp.reads I (.list ds) y u h2 ry
        exact SeqAt.in_list_reads r2 r1 (SeqAt.canLay_of_shaped h4) (SeqAt.canLay_of_shaped h3) hu' ⟨.bl _, H, I, rfl, by rw [h6]; exact fin⟩
      · obtain ⟨bs, r2⟩ := Dp.reads I (.tuple ds) y u h2 ry
        exact SeqAt.in_tuple_reads r2 r1 (SeqAt.canLay_of_shaped h4) (SeqAt.canLay_of_shaped h3) hu' ⟨.bl _, H, I, rfl, by rw [h6]; exact fin⟩
    · obtain rfl : u = Value.ref a := ry
      exact d_in (by omega) I g rx fun s3 I3 => ⟨.bl o.isSome, H, I3, rfl, by rw [h6]; exact fin⟩
  | NotIn =>
    obtain ⟨b, eb, ekb⟩ := Option.map_eq_some_iff.mp (show (inAny tx ty).map (!·) = some k from ek)
    rcases ins b eb with ⟨d, ds, h1, h2, h3, h4, h5, h6⟩ | ⟨a, o, rfl, g, h6⟩
    · obtain ⟨as, r1⟩ := Dp.reads I d x v h1 rx
      have hu' : X.A.units + 1 + min (PyData.depthAll ds) d.depth < cLine := by omega
      rcases h2 with h2 | h2
      · obtain ⟨bs, r2⟩ := Dp.reads I (.list ds) y u h2 ry
        exact SeqAt.notIn_list_reads r2 r1 (SeqAt.canLay_of_shaped h4) (SeqAt.canLay_of_shaped h3) hu' ⟨.bl _, H, I, rfl, by rw [h6, ekb]; exact fin⟩
      · obtain ⟨bs, r2⟩ := Dp.reads I (.tuple ds) y u h2 ry
        exact SeqAt.notIn_tuple_reads r2 r1 (SeqAt.canLay_of_shaped h4) (SeqAt.canLay_of_shaped h3) hu' ⟨.bl _, H, I, rfl, by rw [h6, ekb]; exact fin⟩
    · obtain rfl : u = Value.ref a := ry
      exact d_notIn (by omega) I g rx fun s3 I3 => ⟨.bl (!o.isSome), H, I3, rfl, by rw [h6, ekb]; exact fin⟩
theorem neg_all : UnR X (unaryOp .USub) (rP1 X.K fun t => match t with | .int i => some (.val (.int (-i))) | _ => none) := by
  intro pins s σ H x v Q I rx h
  obtain ⟨av, tx, w, hx, e, q⟩ := h
  cases tx with
  | int i =>
    cases e
    cases (show x = .int i from hx)
    exact un_neg pins s σ H _ v Q I rx ⟨i, rfl, q _ _ _ (Mk.int _)⟩
  | _ => cases e
theorem scr_sq {K : PySem.W.Frag} {H : Hp} {av : Addr → Prop} {a : Addr} {xs : List V} (h : (Rd H a (.lst xs) ∧ ¬ av a) ∨ SqL K (fun _ => none) a xs) : SqL K H a xs := by
  rcases h with ⟨h, _⟩ | h
  · exact .inl h
  · rcases h with h | h
    · rcases h with h | ⟨o, h⟩ <;> cases h
    · exact .inr h
/-- a dict's item, behind its two operands -/
theorem dict_tail {prog : Program} {w : World} {A : Around} {Ex : Value → Shared → Prop} {s : Shared} {value slice : Expr} {o i : Value} {Q : Value → Shared → Prop} (hT : s.TypeIs o "dict") (h : wpAny (model prog w) A (getItem o i) Q Ex s)
    (hs : subscripted slice false o i = operate [o, i] (getItem o i)) : wpAny (model prog w) A (PyProof.Rows.subscriptTail value slice o i) Q Ex s := by
  unfold PyProof.Rows.subscriptTail
  refine wpAny_bind ?_
  rw [getitemInPython_of_ne hT.not_modules]
  refine wpAny_bind (wpAny_specialOf hT PySem.F.slot_dict_getitem.lookup ?_)
  have last : wpAny (model prog w) A (subscripted slice false o i) (fun r s3 => wpAny (model prog w) A (letTemporaryGo value o r >>= fun _ => pure r) Q Ex s3) Ex s := by
    rw [hs]
    exact wpAny_operating (wpAny_mono h (fun r s3 h3 => wpAny_bind (wpAny_letTemporaryGo (wpAny_pure h3))) fun _ _ z => z)
  first
    | exact wpAny_pure (wpAny_bind last)
    | exact wpAny_bind last
    | exact last
/-- a subscript -/
theorem ix_all (hu : X.A.units + 64 < cLine) : IxR X (rP2 X.K fun a b => (ixT a b).map .val) := by
  intro value slice pins s σ H x y v u Q I rx ry h hs
  obtain ⟨av, tx, ty, w, hx, hy, e, q⟩ := h
  obtain ⟨t, et, ew⟩ := Option.map_eq_some_iff.mp e
  subst ew
  have at_ : ∀ {ts : List T} {xs : List V} {i : Int}, FzL X.K H av ts xs → atI ts i = some t → ∃ z, atI xs i = some z ∧ Fz X.K H av t z := by
    intro ts xs i hl ea
    unfold atI at ea ⊢
    rw [← hl.len]
    cases en : L2.ixN ts.length i with
    | none => rw [en] at ea; cases ea
    | some j =>
      rw [en] at ea
      exact hl.get ea
  cases tx with
  | lst ts =>
    cases ty with
    | int i =>
      cases (show y = .int i from hy)
      obtain ⟨a, xs, rfl, ha, _, hl⟩ := hx
      obtain ⟨z, e1, e2⟩ := at_ hl et
      exact ix_list value slice pins s σ H _ _ v u Q I rx ry ⟨a, xs, i, z, rfl, rfl, .inl ha, e1, q _ _ _ (Mk.same e2)⟩ hs
    | _ => cases et
  | tup ts =>
    cases ty with
    | int i =>
      cases (show y = .int i from hy)
      obtain ⟨a, xs, rfl, ha, hl⟩ := hx
      obtain ⟨z, e1, e2⟩ := at_ hl et
      exact ix_tup value slice pins s σ H _ _ v u Q I rx ry ⟨a, xs, i, z, rfl, rfl, ha, e1, q _ _ _ (Mk.same e2)⟩ hs
    | _ => cases et
  | scr is =>
    cases ty with
    | int i =>
      cases (show y = .int i from hy)
      obtain ⟨a, rfl, ha⟩ := hx
      obtain ⟨k, e1, e2⟩ := Option.map_eq_some_iff.mp (show (atI is i).map T.int = some t from et)
      subst e2
      have hs' : SqL X.K H a (is.map V.int) := scr_sq ha
      have ea : atI (is.map V.int) i = some (.int k) := by
        unfold atI at e1 ⊢
        rw [List.length_map]
        cases en : L2.ixN is.length i with
        | none => rw [en] at e1; cases e1
        | some j =>
          rw [en] at e1
          show (is.map V.int)[j]? = _
          rw [List.getElem?_map, show is[j]? = some k from e1]
          rfl
      exact ix_list value slice pins s σ H _ _ v u Q I rx ry ⟨a, _, i, _, rfl, rfl, hs', ea, q _ _ _ (Mk.same rfl)⟩ hs
    | _ => cases et
  | nd n ts =>
    have et' : (n.keys.bind fun ks => (keyT ty).bind (getN ks ts)) = some t := by
      cases ty <;> exact et
    obtain ⟨ks, ek1, e2⟩ := Option.bind_eq_some_iff.mp et'
    obtain ⟨kk, ek2, e3⟩ := Option.bind_eq_some_iff.mp e2
    obtain ⟨a, xs, o, rfl, at_, _, no, hl⟩ := hx
    obtain ⟨kvs, rfl, f1, f2, _⟩ := no.dct ek1
    rcases DctO.get (o := .dK kvs) (k := kk) f1 f2 hl with ⟨g1, _⟩ | ⟨t', z, g1, g2, g3, _⟩
    · rw [g1] at e3; cases e3
    · rw [g1] at e3
      cases e3
      obtain rfl : v = Value.ref a := rx
      have g : DGet H a y (some z) := .inl ⟨kvs, kk, at_.rd, key_fz hy ek2, g2.symm⟩
      exact dict_tail (dict_typeIs I g) (d_getItem (by omega) I g ry fun w' s3 I3 rw' => ⟨z, H, I3, rw', q _ _ _ (Mk.same g3)⟩) hs
  | _ => cases et
/-- truth -/
theorem tru_all {K : PySem.W.Frag} {H : Hp} {av : Addr → Prop} {t : T} {v : V} {b : Bool} (h : Fz K H av t v) (e : t.tru = some b) : TruV K v H b := by
  cases t with
  | non => cases e; cases (show v = _ from h); rfl
  | bl c => cases e; cases (show v = _ from h); rfl
  | int i => cases e; cases (show v = _ from h); rfl
  | lst ts =>
    cases e
    obtain ⟨a, xs, rfl, ha, _, hl⟩ := h
    refine .inl ⟨xs, .inl ha, ?_⟩
    have := hl.len
    cases ts <;> cases xs <;> first | rfl | simp at this
  | tup ts =>
    cases e
    obtain ⟨a, xs, rfl, ha, hl⟩ := h
    refine .inr (.inl ⟨xs, ha, ?_⟩)
    have := hl.len
    cases ts <;> cases xs <;> first | rfl | simp at this
  | _ => cases e
end
end Ev
/-! Ev4: readings by the evaluator; expressions. -/
namespace Ev
open PySem L2

/-- how an exception lies: its class, its value, the heap, who owns what, the model's class and its dict -/
abbrev XR := Nat → T → Hp → (Addr → Prop) → Value → Option Addr → Prop
/-- the static part of a context: constants, calls, how exceptions lie, what is wanted of them -/
structure Cfg where
  G : Nat → Option T
  C : Calls
  xr : XR
  W : WX
  xm : ∀ c t H (av av' : Addr → Prop) cls d, (∀ b, av' b → av b) → xr c t H av cls d → xr c t H av' cls d
section
variable (K : PySem.W.Frag) (g : Cfg)
def Post {α β : Type} (P : α → β → Hp → (Addr → Prop) → List Addr → Prop) (Rt : Addr → Prop) (σ : St) (H : Hp) (A : List Addr) (r : R α) (Q : β → Hp → Prop) : Prop := match r with
  | .ok a env => ∀ b H' A' B, Sx K Rt σ H A H' env A' B → P a b H' (Av (A' ++ B) Rt) B → Q b H'
  | .exc c t env => ∀ cls d H' A', Sx K Rt σ H A H' env A' [] → g.xr c t H' (Av (A' ++ []) Rt) cls d → g.W cls d σ H'
  | .no => False
def PO1 : W → V → Hp → (Addr → Prop) → List Addr → Prop := fun w v H av B => Own K H av w v B
def POL : List W → List V → Hp → (Addr → Prop) → List Addr → Prop := fun ws vs H av B => OwnL K H av ws vs B
def PBl : Bool → Bool → Hp → (Addr → Prop) → List Addr → Prop := fun a b _ _ B => b = a ∧ B = []
def POI : Option Int → Option Int → Hp → (Addr → Prop) → List Addr → Prop := fun a b _ _ B => b = a ∧ B = []
def tE (e : E) : TE := fun σ H Q => ∃ Rt env A, Rl K Rt H σ env A ∧ Post K g (PO1 K) Rt σ H A (evE g.G g.C e env) Q
def tT (e : Tt) : TT := fun σ H Q => ∃ Rt env A, Rl K Rt H σ env A ∧ Post K g PBl Rt σ H A (evT g.G g.C e env) Q
def tTs (e : Tts) : TT := fun σ H Q => ∃ Rt env A, Rl K Rt H σ env A ∧ Post K g PBl Rt σ H A (evTs g.G g.C e env) Q
def tEs (e : Es) : TA := fun σ H Q => ∃ Rt env A, Rl K Rt H σ env A ∧ Post K g (POL K) Rt σ H A (evEs g.G g.C e env) Q
def tO (e : Eo) : TO := fun σ H Q => ∃ Rt env A, Rl K Rt H σ env A ∧ Post K g POI Rt σ H A (evO g.G g.C e env) Q
end
theorem PE.imp {X : Cx} {e : Expr} {t t' : TE} (h : PE X e t) (i : ∀ σ H Q, t' σ H Q → t σ H Q) : PE X e t' := ⟨fun pins s σ H Q I q => h.run pins s σ H Q I (i σ H Q q)⟩
theorem PT.imp {X : Cx} {e : Expr} {t t' : TT} (h : PT X e t) (i : ∀ σ H Q, t' σ H Q → t σ H Q) : PT X e t' := ⟨fun pins s σ H Q I q => h.run pins s σ H Q I (i σ H Q q)⟩
theorem PW.imp {X : Cx} {e : Expr} {t t' : TT} (h : PW X e t) (i : ∀ σ H Q, t' σ H Q → t σ H Q) : PW X e t' := ⟨fun wh pins s σ H Q I q => h.run wh pins s σ H Q I (i σ H Q q)⟩
theorem PA.imp {X : Cx} {e : List Expr} {t t' : TA} (h : PA X e t) (i : ∀ σ H Q, t' σ H Q → t σ H Q) : PA X e t' := ⟨fun pos pins s σ H Q I q => h.run pos pins s σ H Q I (i σ H Q q)⟩
section
variable {K : PySem.W.Frag} {g : Cfg} {α β γ δ : Type} {Pa : α → β → Hp → (Addr → Prop) → List Addr → Prop} {Pc : γ → δ → Hp → (Addr → Prop) → List Addr → Prop}
variable {Rt : Addr → Prop} {σ : St} {H H1 H2 : Hp} {A A1 A2 B B1 B2 : List Addr} {env env1 env2 : Env} {r : R α} {f : α → Env → R γ} {Q : δ → Hp → Prop} {Q1 : β → Hp → Prop}
/-- the first of two -/
theorem Post.seq (h : Post K g Pc Rt σ H A (r.bind f) Q) (k : ∀ a e1 b H1 A1 B1, Sx K Rt σ H A H1 e1 A1 B1 → Pa a b H1 (Av (A1 ++ B1) Rt) B1 → Post K g Pc Rt σ H A (f a e1) Q → Q1 b H1) : Post K g Pa Rt σ H A r Q1 := by
  cases r with
  | ok a e1 => exact fun b H' A' B' sx p => k a e1 b H' A' B' sx p h
  | exc c t e1 => exact h
  | no => exact h
/-- a later one: s1 leads to where it begins -/
theorem Post.seq2 (s1 : Sx K Rt σ H A H1 env1 A1 B1) (h : Post K g Pc Rt σ H A (r.bind f) Q)
    (k : ∀ a e2 b H2 A2 B2, Sx K (RtB B1 Rt) σ H1 A1 H2 e2 A2 B2 → Pa a b H2 (Av (A2 ++ B2) (RtB B1 Rt)) B2 → Post K g Pc Rt σ H A (f a e2) Q → Q1 b H2) : Post K g Pa (RtB B1 Rt) σ H1 A1 r Q1 := by
  cases r with
  | ok a e1 => exact fun b H' A' B' sx p => k a e1 b H' A' B' sx p h
  | exc c t e1 =>
    refine fun cls d H' A' sx p => h cls d H' A' (s1.next sx).drop0 (g.xm c t H' _ _ cls d (fun b z => ?_) p)
    rcases z with z | z
    · exact .inl z
    · exact .inr (.inr z)
  | no => exact h
theorem Post.of {o : Option α} (h : Post K g Pa Rt σ H A (R.of o env) Q1) : ∃ a, o = some a ∧ Post K g Pa Rt σ H A (.ok a env) Q1 := by
  cases o with
  | none => exact h.elim
  | some a => exact ⟨a, rfl, h⟩
/-- an end by a made value -/
theorem Sx.made {w : W} {v : V} (s1 : Sx K Rt σ H A H1 env1 A1 B1) (m : Mk K H1 (Av (A1 ++ []) Rt) w v H2 B) : Sx K Rt σ H A H2 env1 A1 B ∧ Own K H2 (Av (A1 ++ B) Rt) w v B := by
  have eq : ∀ b, Av (A1 ++ B) Rt b ↔ (b ∈ B ∨ Av (A1 ++ []) Rt b) := fun b => by
    unfold Av
    rw [List.append_nil, List.mem_append]
    constructor
    · rintro ((z | z) | z)
      · exact .inr (.inl z)
      · exact .inl z
      · exact .inr (.inr z)
    · rintro (z | z | z)
      · exact .inl (.inr z)
      · exact .inl (.inl z)
      · exact .inr z
  have hA : ∀ b ∈ A1, ∃ o, H1 b = some o := fun b hb => by
    obtain ⟨o, q, _⟩ := RE.there _ _ _ s1.re b hb
    exact ⟨o, q⟩
  have nA : ∀ b ∈ B, b ∉ A1 := fun b hb z => by
    obtain ⟨o, q⟩ := hA b z
    rw [m.fresh b hb] at q; cases q
  have s0 := s1.drop0
  refine ⟨⟨⟨fun b o q n => m.ext b o (s0.go.keep b o q n), fun b xs q => Rd.mono (s0.go.tups b xs q) fun o q => m.ext b o q, fun b hb => ?_⟩, ?_, fun b hb z => ?_, fun b z q => ?_, fun b hb q => ?_, ?_⟩, ?_⟩
  · rcases List.mem_append.mp hb with hb | hb
    · exact s0.go.new b (List.mem_append_left _ hb)
    · by_cases ha : b ∈ A
      · exact .inl ha
      · cases q : H b with
        | none => exact .inr rfl
        | some o =>
          have := s0.go.keep b o q ha
          rw [m.fresh b hb] at this
          cases this
  · exact List.nodup_append.mpr ⟨(List.nodup_append.mp s0.nd).1, m.nd, fun a ha b hb e => nA b hb (e ▸ ha)⟩
  · rcases List.mem_append.mp hb with hb | hb
    · exact s0.rt b (List.mem_append_left _ hb) z
    · exact s0.th b z (m.fresh b hb)
  · cases e : H1 b with
    | none => exact s0.th b z e
    | some o => rw [m.ext b o e] at q; cases q
  · obtain ⟨o, q', _⟩ := Own.there w v B m.own b hb
    rw [q] at q'; cases q'
  · exact RE.mono env1 σ A1 (fun b o q _ => m.ext b o q) (fun b xs q => Rd.mono q fun o q => m.ext b o q) (fun b z => by
      rcases (eq b).mp z with z | z
      · exact .inr (m.fresh b z)
      · exact .inl z) s0.re
  · exact Own.mono w v B (fun b o q _ => q) (fun _ _ q => q) (fun b z => .inl ((eq b).mp z)) m.own
end

/-! ### expressions -/
section
variable {X : Cx} {g : Cfg} {pos : Pos} {a b c : Expr} {ia ib ic : E}
theorem snd_int {i : Int} {j : Nat} : PE X (.Constant (.int i) j pos) (tE X.K g (.int i)) :=
  PE.imp pe_int fun σ H Q ⟨Rt, env, A, rl, p⟩ => p (.int i) H A [] rl.sx ⟨rfl, rfl⟩
theorem snd_bl {i : Bool} {j : Nat} : PE X (.Constant (.bool i) j pos) (tE X.K g (.bl i)) :=
  PE.imp pe_bl fun σ H Q ⟨Rt, env, A, rl, p⟩ => p (.bl i) H A [] rl.sx ⟨rfl, rfl⟩
theorem snd_non {j : Nat} : PE X (.Constant .none j pos) (tE X.K g .non) :=
  PE.imp pe_non fun σ H Q ⟨Rt, env, A, rl, p⟩ => p .non H A [] rl.sx ⟨rfl, rfl⟩
theorem snd_str {x : Str} {j : Nat} : PE X (.Constant (.str x) j pos) (tE X.K g (.str x)) :=
  PE.imp pe_str fun σ H Q ⟨Rt, env, A, rl, p⟩ => p (.str x) H A [] rl.sx ⟨rfl, rfl⟩
/-- two operands, then an operation by values -/
theorem two_ev {f : T → T → Option W} {i : E} (ev : ∀ env, evE g.G g.C i env = (evE g.G g.C ia env).bind fun x env1 => (evE g.G g.C ib env1).bind fun y env2 => R.of (f x.fz y.fz) env2)
    {σ : St} {H : Hp} {Q : VK} (h : tE X.K g i σ H Q) : tOp (rP2 X.K f) (tE X.K g ia) (tE X.K g ib) σ H Q := by
  obtain ⟨Rt, env, A, rl, p⟩ := h
  rw [ev] at p
  refine ⟨Rt, env, A, rl, Post.seq p fun x e1 v1 H1 A1 B1 s1 o1 p1 => ?_⟩
  refine ⟨RtB B1 Rt, e1, A1, s1.rl, Post.seq2 s1 p1 fun y e2 v2 H2 A2 B2 s2 o2 p2 => ?_⟩
  obtain ⟨w, ew, p3⟩ := Post.of p2
  have s3 := s1.next s2
  have w1 : Own X.K H2 (Av (A2 ++ (B1 ++ B2)) Rt) x v1 B1 := s1.own s2 o1
  have w2 : Own X.K H2 (Av (A2 ++ (B1 ++ B2)) Rt) y v2 B2 := Sx.own2 o2
  refine ⟨Av (A2 ++ []) Rt, x.fz, y.fz, w, ?_, ?_, ew, fun v H' B mk => ?_⟩
  · exact Own.fz (Sx.avs fun b hb => by cases hb) x v1 B1 (fun b hb z => by
      rcases z with z | z
      · rw [List.append_nil] at z; exact s3.out (List.mem_append_left _ hb) z
      · exact s3.rt b (List.mem_append_right _ (List.mem_append_left _ hb)) z) w1
  · exact Own.fz (Sx.avs fun b hb => by cases hb) y v2 B2 (fun b hb z => by
      rcases z with z | z
      · rw [List.append_nil] at z; exact s3.out (List.mem_append_right _ hb) z
      · exact s3.rt b (List.mem_append_right _ (List.mem_append_right _ hb)) z) w2
  · obtain ⟨s4, o4⟩ := s3.made mk
    exact p3 v H' A2 B s4 o4
theorem snd_op {o : Operator} (ha : PE X a (tE X.K g ia)) (hb : PE X b (tE X.K g ib)) : PE X (.BinOp a o b pos) (tE X.K g (.op o ia ib)) :=
  PE.imp (pe_op (op_all o) ha hb) fun σ H Q h => two_ev (fun env => rfl) h
theorem nobeh {o : CmpOp} {e : Expr} (h : (match e with | .Set _ _ _ => false | _ => true) = true) : behindInMarks o e = false := by
  cases e <;> first | rfl | cases h
theorem snd_cmp {o : CmpOp} (hu : X.A.units + 64 < cLine) (ha : PE X a (tE X.K g ia)) (hb : PE X b (tE X.K g ib)) (hm : behindInMarks o b = false) : PE X (.Compare a [o] [b] pos) (tE X.K g (.cmp o ia ib)) :=
  PE.imp (pe_cmpR (cmp_all hu o) ha hb hm) fun σ H Q h => two_ev (f := fun a b => (cmpT o a b).map fun b => .val (.bl b)) (fun env => rfl) h
theorem snd_ix (hu : X.A.units + 64 < cLine) (ha : PE X a (tE X.K g ia)) (hb : PE X b (tE X.K g ib)) (hs : PlainIx b) : PE X (.Subscript a b pos) (tE X.K g (.ix ia ib)) :=
  PE.imp (pe_ix (ix_all hu) ha hb hs) fun σ H Q h => two_ev (f := fun a b => (ixT a b).map .val) (fun env => rfl) h
end
end Ev
/-! Ev5: expressions, tests, arguments. -/
namespace Ev
open PySem L2
section
variable {K : PySem.W.Frag} {g : Cfg} {α β γ δ : Type} {Pa : α → β → Hp → (Addr → Prop) → List Addr → Prop} {Pc : γ → δ → Hp → (Addr → Prop) → List Addr → Prop}
variable {Rt : Addr → Prop} {σ : St} {H H1 H2 : Hp} {A A1 A2 B B1 B2 : List Addr} {env env1 env2 : Env} {r : R α} {f : α → Env → R γ} {Q : δ → Hp → Prop} {Q1 : β → Hp → Prop}
theorem rtB_nil : ∀ b, RtB [] Rt b ↔ Rt b := fun b => ⟨fun z => z.elim (fun z => by cases z) id, .inr⟩
theorem Sx.rt0 {Rt' : Addr → Prop} (e : ∀ b, Rt' b ↔ Rt b) (s : Sx K Rt σ H A H1 env1 A1 B1) : Sx K Rt' σ H A H1 env1 A1 B1 := by
  have : Rt' = Rt := funext fun b => propext (e b)
  rw [this]; exact s
theorem Sx.next0 {σ0 : St} (s1 : Sx K Rt σ0 H A H1 env1 A1 []) (s2 : Sx K Rt σ H1 A1 H2 env2 A2 B2) : Sx K Rt σ H A H2 env2 A2 B2 := s1.next (s2.rt0 rtB_nil)
/-- what follows, from where one stands -/
theorem Post.shift (s1 : Sx K Rt σ H A H1 env1 A1 []) (h : Post K g Pa Rt σ H A r Q1) : Post K g Pa Rt σ H1 A1 r Q1 := by
  cases r with
  | ok a e => exact fun b H' A' B' sx p => h b H' A' B' (s1.next0 sx) p
  | exc c t e => exact fun cls d H' A' sx p => h cls d H' A' (s1.next0 sx) p
  | no => exact h
theorem Post.seqE (h : Post K g Pc Rt σ H A (r.bind f) Q) (k : ∀ a e1 b H1 A1 B1, r = .ok a e1 → Sx K Rt σ H A H1 e1 A1 B1 → Pa a b H1 (Av (A1 ++ B1) Rt) B1 → Post K g Pc Rt σ H A (f a e1) Q → Q1 b H1) : Post K g Pa Rt σ H A r Q1 := by
  cases r with
  | ok a e1 => exact fun b H' A' B' sx p => k a e1 b H' A' B' rfl sx p h
  | exc c t e1 => exact h
  | no => exact h
theorem Sx.fzL0 {ws : List W} {vs : List V} (h : Sx K Rt σ H A H1 env1 A1 B) (ow : OwnL K H1 (Av (A1 ++ B) Rt) ws vs B) : FzL K H1 (Av (A1 ++ []) Rt) (fzs ws) vs :=
  OwnL.fz (Sx.avs fun b hb => by cases hb) ws vs B (fun b hb z => by
    rcases z with z | z
    · rw [List.append_nil] at z; exact h.out hb z
    · exact h.rt b (List.mem_append_right _ hb) z) ow
end
theorem fz_bl {K : PySem.W.Frag} {H : Hp} {av : Addr → Prop} {w : W} {v : V} {B : List Addr} {c : Bool} (e : w.fz = .bl c) (ow : Own K H av w v B) : v = .bl c := by
  cases w with
  | val t =>
    have e' : t = .bl c := e
    subst e'
    exact ow.2
  | lst ws => cases (show T.lst (fzs ws) = .bl c from e)
  | nd n ws => cases (show T.nd n (fzs ws) = .bl c from e)
  | set ts => cases (show T.set ts = .bl c from e)
theorem fz_int {K : PySem.W.Frag} {H : Hp} {av : Addr → Prop} {w : W} {v : V} {B : List Addr} {c : Int} (e : w.fz = .int c) (ow : Own K H av w v B) : v = .int c := by
  cases w with
  | val t =>
    have e' : t = .int c := e
    subst e'
    exact ow.2
  | lst ws => cases (show T.lst (fzs ws) = .int c from e)
  | nd n ws => cases (show T.nd n (fzs ws) = .int c from e)
  | set ts => cases (show T.set ts = .int c from e)
section
variable {X : Cx} {g : Cfg} {pos : Pos} {a b c : Expr} {es rest : List Expr} {ia ib ic : E} {ja jb : Tt} {is : Es}
theorem snd_rd {i : Nat} {x : Str} (hN : X.N[i]? = some x) (hv : Vis X.env.scope x) (hd : (x == ("__debug__" : Str)) = false) (hcd : (x == ("__classdict__" : Str)) = false) : PE X (.Name x pos) (tE X.K g (.rd i)) :=
  PE.imp (pe_var hN hv hd hcd) fun σ H Q ⟨Rt, env, A, rl, p⟩ => by
    have p' : Post X.K g (PO1 X.K) Rt σ H A (match env[i]? with | some (some w) => .ok (.val w.fz) (env.set i (some (.val w.fz))) | _ => .no) Q := p
    cases e : env[i]? with
    | none => rw [e] at p'; exact p'.elim
    | some o =>
      cases o with
      | none => rw [e] at p'; exact p'.elim
      | some w =>
        rw [e] at p'
        have hi : i < env.length := (List.getElem?_eq_some_iff.mp e).1
        obtain ⟨A1, B, A2, eA, _, hw, hu⟩ := RE.slot env σ A i rl.re hi
        obtain ⟨v, ev, ow⟩ := hw w e
        subst eA
        obtain ⟨nd, out⟩ := nodup_mid rl.nd
        have sub : ∀ b, Av (A1 ++ A2) Rt b → Av (A1 ++ (B ++ A2)) Rt b := fun b z => z.imp (fun z => by
          rcases List.mem_append.mp z with z | z
          · exact List.mem_append_left _ z
          · exact List.mem_append_right _ (List.mem_append_right _ z)) id
        have fz : Fz X.K H (Av (A1 ++ A2) Rt) w.fz v := Own.fz sub w v B (fun b hb z => by
          rcases z with z | z
          · exact out b hb z
          · exact rl.rt b (List.mem_append_right _ (List.mem_append_left _ hb)) z) ow
        have re := (hu H (Av (A1 ++ A2) Rt) (fun _ _ q _ => q) (fun _ _ q => q) (fun b z => .inl (sub b z))).2 (.val w.fz) v [] ⟨rfl, fz⟩
        rw [set_same ev] at re
        have sx := rl.less nd (fun b hb => by
          rcases List.mem_append.mp hb with z | z
          · exact List.mem_append_left _ z
          · exact List.mem_append_right _ (List.mem_append_right _ z)) re
        refine ⟨v, ev, p' v H (A1 ++ A2) [] sx ⟨rfl, ?_⟩⟩
        rw [List.append_nil]
        exact fz
theorem snd_neg (ha : PE X a (tE X.K g ia)) : PE X (.UnaryOp .USub a pos) (tE X.K g (.neg ia)) :=
  PE.imp (pe_un neg_all ha) fun σ H Q ⟨Rt, env, A, rl, p⟩ => by
    refine ⟨Rt, env, A, rl, Post.seq p fun x e1 v1 H1 A1 B1 s1 o1 p1 => ?_⟩
    cases e : x.fz with
    | int i =>
      simp only [e] at p1
      have fz := s1.fz0 o1
      rw [e] at fz
      refine ⟨_, .int i, .val (.int (-i)), fz, rfl, fun v H' B mk => ?_⟩
      obtain ⟨s4, o4⟩ := s1.made mk
      exact p1 v H' A1 B s4 o4
    | _ => simp only [e] at p1; exact p1.elim
theorem snd_one {op : BoolOp} (ha : PE X a (tE X.K g ia)) : PE X (.BoolOp op [a] pos) (tE X.K g (.one ia)) := PE.imp (pe_one ha) fun σ H Q h => h
theorem snd_and (ha : PE X a (tE X.K g ia)) (hb : PE X (.BoolOp .And (b :: rest) pos) (tE X.K g ib)) : PE X (.BoolOp .And (a :: b :: rest) pos) (tE X.K g (.and ia ib)) :=
  PE.imp (pe_and ha hb) fun σ H Q ⟨Rt, env, A, rl, p⟩ => by
    refine ⟨Rt, env, A, rl, Post.seq p fun x e1 v1 H1 A1 B1 s1 o1 p1 => ?_⟩
    cases e : x.fz with
    | bl c =>
      refine ⟨c, fz_bl e o1, ?_⟩
      cases c with
      | true =>
        simp only [e] at p1
        exact ⟨Rt, e1, A1, s1.drop0.rl0, Post.shift s1.drop0 p1⟩
      | false =>
        simp only [e] at p1
        exact p1 (.bl false) H1 A1 [] s1.drop0 ⟨rfl, rfl⟩
    | _ => simp only [e] at p1; exact p1.elim
theorem snd_or (ha : PE X a (tE X.K g ia)) (hb : PE X (.BoolOp .Or (b :: rest) pos) (tE X.K g ib)) : PE X (.BoolOp .Or (a :: b :: rest) pos) (tE X.K g (.or ia ib)) :=
  PE.imp (pe_or ha hb) fun σ H Q ⟨Rt, env, A, rl, p⟩ => by
    refine ⟨Rt, env, A, rl, Post.seq p fun x e1 v1 H1 A1 B1 s1 o1 p1 => ?_⟩
    cases e : x.fz with
    | bl c =>
      refine ⟨c, fz_bl e o1, ?_⟩
      cases c with
      | false =>
        simp only [e] at p1
        exact ⟨Rt, e1, A1, s1.drop0.rl0, Post.shift s1.drop0 p1⟩
      | true =>
        simp only [e] at p1
        exact p1 (.bl true) H1 A1 [] s1.drop0 ⟨rfl, rfl⟩
    | _ => simp only [e] at p1; exact p1.elim
theorem snd_not (ha : PE X a (tE X.K g ia)) : PE X (.UnaryOp .Not a pos) (tE X.K g (.not ia)) :=
  PE.imp (pe_not ha) fun σ H Q ⟨Rt, env, A, rl, p⟩ => by
    refine ⟨Rt, env, A, rl, Post.seq p fun x e1 v1 H1 A1 B1 s1 o1 p1 => ?_⟩
    cases e : x.fz with
    | bl c =>
      simp only [e] at p1
      exact ⟨c, fz_bl e o1, p1 (.bl (!c)) H1 A1 [] s1.drop0 ⟨rfl, rfl⟩⟩
    | _ => simp only [e] at p1; exact p1.elim
theorem snd_ife (hc : PT X c (tT X.K g ja)) (ha : PE X a (tE X.K g ia)) (hb : PE X b (tE X.K g ib)) : PE X (.IfExp c a b pos) (tE X.K g (.ife ja ia ib)) :=
  PE.imp (pe_ifExp hc ha hb) fun σ H Q ⟨Rt, env, A, rl, p⟩ => by
    refine ⟨Rt, env, A, rl, Post.seq p fun x e1 v1 H1 A1 B1 s1 o1 p1 => ?_⟩
    obtain ⟨rfl, rfl⟩ := o1
    cases v1 with
    | true => exact ⟨Rt, e1, A1, s1.rl0, Post.shift s1 p1⟩
    | false => exact ⟨Rt, e1, A1, s1.rl0, Post.shift s1 p1⟩
/-! ### tests -/
def plainT : Expr → Bool
  | .UnaryOp .Not _ _ => false
  | .BoolOp _ _ _ => false
  | .IfExp _ _ _ _ => false
  | .Compare _ _ _ _ => false
  | _ => true
theorem plainT_is {e : Expr} (h : plainT e = true) (env : PySem.Env) (wh : Sem Value) : isTrue e env wh = (do let v ← wh; standAt e.pos; holding [v] (truthy v)) := by
  cases e with
  | UnaryOp op x p => cases op <;> first | rfl | cases h
  | BoolOp _ _ _ => cases h
  | IfExp _ _ _ _ => cases h
  | Compare _ _ _ _ => cases h
  | _ => rfl
theorem snt_v (ha : PE X a (tE X.K g ia)) (h : plainT a = true) : PT X a (tT X.K g (.v ia)) :=
  PT.imp (pt_truth ha fun wh => plainT_is h _ wh) fun σ H Q ⟨Rt, env, A, rl, p⟩ => by
    refine ⟨Rt, env, A, rl, Post.seq p fun x e1 v1 H1 A1 B1 s1 o1 p1 => ?_⟩
    obtain ⟨k, ek, p2⟩ := Post.of p1
    exact ⟨k, tru_all (s1.fz0 o1) ek, p2 k H1 A1 [] s1.drop0 ⟨rfl, rfl⟩⟩
/-- a value that is a bool, as a test -/
theorem test_bl {i : E} (hb : ∀ env w e1, evE g.G g.C i env = .ok w e1 → ∃ c, w.fz = .bl c) {σ : St} {H : Hp} {Q : Bool → Hp → Prop} (h : tT X.K g (.v i) σ H Q) : tE X.K g i σ H fun x H' => ∃ k, x = .bl k ∧ Q k H' := by
  obtain ⟨Rt, env, A, rl, p⟩ := h
  refine ⟨Rt, env, A, rl, Post.seqE p fun x e1 v1 H1 A1 B1 er s1 o1 p1 => ?_⟩
  obtain ⟨c, ec⟩ := hb env x e1 er
  obtain ⟨k, ek, p2⟩ := Post.of p1
  rw [ec] at ek
  cases ek
  exact ⟨c, fz_bl ec o1, p2 c H1 A1 [] s1.drop0 ⟨rfl, rfl⟩⟩
theorem bind_ok {α β : Type} {r : R α} {f : α → Env → R β} {b : β} {e : Env} (h : r.bind f = .ok b e) : ∃ a e1, r = .ok a e1 ∧ f a e1 = .ok b e := by
  cases r with
  | ok a e1 => exact ⟨a, e1, rfl, h⟩
  | exc c t e1 => cases h
  | no => cases h
theorem of_ok {α : Type} {o : Option α} {env : Env} {a : α} {e : Env} (h : R.of o env = .ok a e) : o = some a ∧ env = e := by
  cases o with
  | none => cases h
  | some x => cases h; exact ⟨rfl, rfl⟩
theorem cmp_bl {o : CmpOp} (env : Env) (w : W) (e1 : Env) (h : evE g.G g.C (.cmp o ia ib) env = .ok w e1) : ∃ c, w.fz = .bl c := by
  obtain ⟨x, e2, _, h⟩ := bind_ok (show ((evE g.G g.C ia env).bind fun x env1 => (evE g.G g.C ib env1).bind fun y env2 => R.of ((cmpT o x.fz y.fz).map fun b => W.val (.bl b)) env2) = _ from h)
  obtain ⟨y, e3, _, h⟩ := bind_ok h
  obtain ⟨h, _⟩ := of_ok h
  obtain ⟨c, _, rfl⟩ := Option.map_eq_some_iff.mp h
  exact ⟨c, rfl⟩
theorem snt_cmp {o : CmpOp} (hu : X.A.units + 64 < cLine) (ha : PE X a (tE X.K g ia)) (hb : PE X b (tE X.K g ib)) (hm : behindInMarks o b = false) : PT X (.Compare a [o] [b] pos) (tT X.K g (.v (.cmp o ia ib))) :=
  PT.imp (pt_cmpR (cmp_all hu o) ha hb hm) fun σ H Q h => two_ev (f := fun a b => (cmpT o a b).map fun b => .val (.bl b)) (i := .cmp o ia ib) (fun env => rfl) (test_bl cmp_bl h)
/-! ### a chain of two comparisons -/
theorem chain_ev {o o' : CmpOp} {σ : St} {H : Hp} {Q : VK} (h : tE X.K g (.chn o o' ia ib ic) σ H Q) :
    tChain (rP2 X.K fun a b => (cmpT o a b).map fun b => .val (.bl b)) (rP2 X.K fun a b => (cmpT o' a b).map fun b => .val (.bl b)) (tE X.K g ia) (tE X.K g ib) (tE X.K g ic) σ H Q := by
  obtain ⟨Rt, env, A, rl, p⟩ := h
  refine ⟨Rt, env, A, rl, Post.seq p fun x e1 v1 H1 A1 B1 s1 o1 p1 => ?_⟩
  refine ⟨RtB B1 Rt, e1, A1, s1.rl, Post.seq2 s1 p1 fun y e2 v2 H2 A2 B2 s2 o2 p2 => ?_⟩
  have s3 := s1.next s2
  have w1 : Own X.K H2 (Av (A2 ++ (B1 ++ B2)) Rt) x v1 B1 := s1.own s2 o1
  have w2 : Own X.K H2 (Av (A2 ++ (B1 ++ B2)) Rt) y v2 B2 := Sx.own2 o2
  have f1 : Fz X.K H2 (Av (A2 ++ []) Rt) x.fz v1 := Own.fz (Sx.avs fun b hb => by cases hb) x v1 B1 (fun b hb z => by
      rcases z with z | z
      · rw [List.append_nil] at z; exact s3.out (List.mem_append_left _ hb) z
      · exact s3.rt b (List.mem_append_right _ (List.mem_append_left _ hb)) z) w1
  have f2 : Fz X.K H2 (Av (A2 ++ []) Rt) y.fz v2 := Own.fz (Sx.avs fun b hb => by cases hb) y v2 B2 (fun b hb z => by
      rcases z with z | z
      · rw [List.append_nil] at z; exact s3.out (List.mem_append_right _ hb) z
      · exact s3.rt b (List.mem_append_right _ (List.mem_append_right _ hb)) z) w2
  cases ec : cmpT o x.fz y.fz with
  | none => simp only [ec] at p2; exact p2.elim
  | some k =>
    refine ⟨Av (A2 ++ []) Rt, x.fz, y.fz, .val (.bl k), f1, f2, congrArg (Option.map fun b => W.val (T.bl b)) ec, fun v H' B mk => ?_⟩
    obtain ⟨s4, o4⟩ := s3.made mk
    refine ⟨k, o4.2, ?_⟩
    cases k with
    | false =>
      simp only [ec] at p2
      exact p2 (.bl false) H' A2 [] s4.drop0 ⟨rfl, rfl⟩
    | true =>
      simp only [ec] at p2
      have s5 := s4.drop0
      have f3 : Fz X.K H' (Av (A2 ++ []) Rt) y.fz v2 := by
        exact Fz.mono (fun b o q _ => mk.ext b o q) (fun b xs q => Rd.mono q fun o q => mk.ext b o q) (fun b z => .inl z) y.fz v2 f2
      refine ⟨Rt, e2, A2, s5.rl0, Post.seq (Post.shift s5 p2) fun z e3 v3 H3 A3 B3 s6 o6 p6 => ?_⟩
      obtain ⟨w, ew, p7⟩ := Post.of p6
      refine ⟨Av (A3 ++ []) Rt, y.fz, z.fz, w, ?_, s6.fz0 o6, ew, fun v H4 B4 mk4 => ?_⟩
      · refine Fz.mono (fun b o q c => s6.go.keep b o q fun z => c (.inl (List.mem_append_left _ z))) s6.go.tups (fun b z => ?_) y.fz v2 f3
        rcases z with z | z
        · rw [List.append_nil] at z
          exact (s6.go.new b (List.mem_append_left _ z)).imp (fun z => .inl (List.mem_append_left _ z)) id
        · exact .inl (.inr z)
      · obtain ⟨s7, o7⟩ := s6.made mk4
        exact p7 v H4 A3 B4 s7 o7
theorem snd_chn {o o' : CmpOp} (hu : X.A.units + 64 < cLine) (ha : PE X a (tE X.K g ia)) (hb : PE X b (tE X.K g ib)) (hc : PE X c (tE X.K g ic)) (hm : lastMarks [o, o'] [b, c] = false) : PE X (.Compare a [o, o'] [b, c] pos) (tE X.K g (.chn o o' ia ib ic)) :=
  PE.imp (pe_chain (cmp_all hu o) (cmp_all hu o') ha hb hc hm) fun σ H Q h => chain_ev h
theorem chn_bl {o o' : CmpOp} (env : Env) (w : W) (e1 : Env) (h : evE g.G g.C (.chn o o' ia ib ic) env = .ok w e1) : ∃ c, w.fz = .bl c := by
  obtain ⟨x, e2, _, h⟩ := bind_ok (show ((evE g.G g.C ia env).bind fun x env1 => (evE g.G g.C ib env1).bind fun y env2 => (match cmpT o x.fz y.fz with
    | some true => (evE g.G g.C ic env2).bind fun z env3 => R.of ((cmpT o' y.fz z.fz).map fun b => W.val (.bl b)) env3
    | some false => .ok (.val (.bl false)) env2
    | none => .no)) = _ from h)
  obtain ⟨y, e3, _, h⟩ := bind_ok h
  cases ec : cmpT o x.fz y.fz with
  | none => simp only [ec] at h; cases h
  | some k =>
    cases k with
    | false => simp only [ec] at h; cases h; exact ⟨false, rfl⟩
    | true =>
      simp only [ec] at h
      obtain ⟨z, e4, _, h⟩ := bind_ok h
      obtain ⟨h, _⟩ := of_ok h
      obtain ⟨c, _, rfl⟩ := Option.map_eq_some_iff.mp h
      exact ⟨c, rfl⟩
theorem snt_chn {o o' : CmpOp} (hu : X.A.units + 64 < cLine) (ha : PE X a (tE X.K g ia)) (hb : PE X b (tE X.K g ib)) (hc : PE X c (tE X.K g ic)) (hm : lastMarks [o, o'] [b, c] = false) : PT X (.Compare a [o, o'] [b, c] pos) (tT X.K g (.v (.chn o o' ia ib ic))) :=
  PT.imp (pt_chain (cmp_all hu o) (cmp_all hu o') ha hb hc hm) fun σ H Q h => chain_ev (test_bl chn_bl h)
/-! ### and, or, not as tests -/
theorem snw_one {op : BoolOp} (ha : PT X a (tT X.K g ja)) : PW X (.BoolOp op [a] pos) (tT X.K g (.one ja)) := by
  cases op with
  | And => exact PW.imp (pw_and1 ha) fun σ H Q h => h
  | Or => exact PW.imp (pw_or1 ha) fun σ H Q h => h
theorem snw_and (ha : PT X a (tT X.K g ja)) (hb : PW X (.BoolOp .And (b :: rest) pos) (tT X.K g jb)) : PW X (.BoolOp .And (a :: b :: rest) pos) (tT X.K g (.and ja jb)) :=
  PW.imp (pw_and ha hb) fun σ H Q ⟨Rt, env, A, rl, p⟩ => by
    refine ⟨Rt, env, A, rl, Post.seq p fun x e1 v1 H1 A1 B1 s1 o1 p1 => ?_⟩
    obtain ⟨rfl, rfl⟩ := o1
    cases v1 with
    | true => exact ⟨Rt, e1, A1, s1.rl0, Post.shift s1 p1⟩
    | false => exact p1 false H1 A1 [] s1 ⟨rfl, rfl⟩
theorem snw_or (ha : PT X a (tT X.K g ja)) (hb : PW X (.BoolOp .Or (b :: rest) pos) (tT X.K g jb)) : PW X (.BoolOp .Or (a :: b :: rest) pos) (tT X.K g (.or ja jb)) :=
  PW.imp (pw_or ha hb) fun σ H Q ⟨Rt, env, A, rl, p⟩ => by
    refine ⟨Rt, env, A, rl, Post.seq p fun x e1 v1 H1 A1 B1 s1 o1 p1 => ?_⟩
    obtain ⟨rfl, rfl⟩ := o1
    cases v1 with
    | false => exact ⟨Rt, e1, A1, s1.rl0, Post.shift s1 p1⟩
    | true => exact p1 true H1 A1 [] s1 ⟨rfl, rfl⟩
theorem snt_not (ha : PT X a (tT X.K g ja)) : PT X (.UnaryOp .Not a pos) (tT X.K g (.not ja)) :=
  PT.imp (pt_not ha) fun σ H Q ⟨Rt, env, A, rl, p⟩ => by
    refine ⟨Rt, env, A, rl, Post.seq p fun x e1 v1 H1 A1 B1 s1 o1 p1 => ?_⟩
    obtain ⟨rfl, rfl⟩ := o1
    exact p1 (!v1) H1 A1 [] s1 ⟨rfl, rfl⟩
theorem pa_nil' : PA X [] (tEs X.K g .nil) := PA.imp pa_nil fun σ H Q ⟨Rt, env, A, rl, p⟩ => p [] H A [] rl.sx ⟨rfl, rfl⟩
theorem snd_cons {e : Expr} (he : PE X e (tE X.K g ia)) (hs : PA X es (tEs X.K g is)) (hst : starEach (e :: es) X.env = (false, eval e X.env) :: starEach es X.env) : PA X (e :: es) (tEs X.K g (.cons ia is)) :=
  PA.imp (pa_cons he hs hst) fun σ H Q ⟨Rt, env, A, rl, p⟩ => by
    refine ⟨Rt, env, A, rl, Post.seq p fun x e1 v1 H1 A1 B1 s1 o1 p1 => ?_⟩
    refine ⟨RtB B1 Rt, e1, A1, s1.rl, Post.seq2 s1 p1 fun ws e2 vs H2 A2 B2 s2 o2 p2 => ?_⟩
    exact p2 (v1 :: vs) H2 A2 (B1 ++ B2) (s1.next s2) ⟨v1, vs, B1, B2, rfl, rfl, s1.own s2 o1, Sx.ownL2 o2⟩
theorem OwnL.len {K : PySem.W.Frag} {H : Hp} {av : Addr → Prop} : ∀ (ws : List W) (vs : List V) (B : List Addr), OwnL K H av ws vs B → ws.length = vs.length
  | [], vs, B, h => by rw [h.1]; rfl
  | w :: ws, vs, B, h => by
    obtain ⟨v, r, B1, B2, rfl, _, _, h2⟩ := h
    rw [List.length_cons, List.length_cons, OwnL.len ws r B2 h2]
theorem snd_tup {k : Nat} (hs : PA X es (tEs X.K g is)) : PE X (.Tuple es k pos) (tE X.K g (.tup is)) :=
  PE.imp (pe_tup hs) fun σ H Q ⟨Rt, env, A, rl, p⟩ => by
    refine ⟨Rt, env, A, rl, Post.seq p fun ws e1 vs H1 A1 B1 s1 o1 p1 => ?_⟩
    have p2 : Post X.K g (PO1 X.K) Rt σ H A (if decide (ws.length ≤ 16777216) = true then .ok (.val (.tup (fzs ws))) e1 else .no) Q := p1
    by_cases c : decide (ws.length ≤ 16777216) = true
    · rw [if_pos c] at p2
      refine ⟨by rw [sizeLine_eq, ← OwnL.len ws vs B1 o1]; exact of_decide_eq_true c, fun q hq => ?_⟩
      obtain ⟨s4, o4⟩ := s1.made (Mk.tup hq (s1.fzL0 o1))
      exact p2 _ _ A1 [] s4 o4
    · rw [if_neg c] at p2; exact p2.elim
theorem snd_lst (hs : PA X es (tEs X.K g is)) : PE X (.List es pos) (tE X.K g (.lst is)) :=
  PE.imp (pe_lst hs) fun σ H Q ⟨Rt, env, A, rl, p⟩ => by
    refine ⟨Rt, env, A, rl, Post.seq p fun ws e1 vs H1 A1 B1 s1 o1 p1 => ?_⟩
    have p2 : Post X.K g (PO1 X.K) Rt σ H A (if decide (ws.length ≤ 16777216) = true then .ok (.lst ws) e1 else .no) Q := p1
    by_cases c : decide (ws.length ≤ 16777216) = true
    · rw [if_pos c] at p2
      refine ⟨by rw [sizeLine_eq, ← OwnL.len ws vs B1 o1]; exact of_decide_eq_true c, fun q hq => ?_⟩
      exact p2 (.ref q) _ A1 (q :: B1) (s1.new hq) ⟨q, vs, B1, rfl, rfl, upd_same, OwnL.newp hq o1⟩
    · rw [if_neg c] at p2; exact p2.elim
/-- a call of a builtin by values -/
theorem snd_callv {x : Str} {id : String} {p0 : Pos} {f : List T → Option W} {i : E} {e : Expr} (hc : CallR X (.builtin id) (rPL X.K f)) (hg : Gl X x) (hm : X.mg x = none) (hv : bootBuiltins x = some (.builtin id)) (hs : PA X (e :: es) (tEs X.K g is))
    (hn : x ≠ "__name__") (hdb : (x == ("__debug__" : Str)) = false) (he : starEach (e :: es) X.env = (false, eval e X.env) :: starEach es X.env) (hpl : (backTo pos (starEach es X.env)).any (·.1) = false)
    (ev : ∀ env, evE g.G g.C i env = (evEs g.G g.C is env).bind fun ws env1 => R.of (f (fzs ws)) env1) : PE X (.Call (.Name x p0) (e :: es) [] pos) (tE X.K g i) :=
  PE.imp (pe_callB hc hg hm hv hs hn hdb he hpl) fun σ H Q ⟨Rt, env, A, rl, p⟩ => by
    rw [ev] at p
    refine ⟨Rt, env, A, rl, Post.seq p fun ws e1 vs H1 A1 B1 s1 o1 p1 => ?_⟩
    obtain ⟨w, ew, p2⟩ := Post.of p1
    refine ⟨_, fzs ws, w, s1.fzL0 o1, ew, fun v H' B mk => ?_⟩
    obtain ⟨s4, o4⟩ := s1.made mk
    exact p2 v H' A1 B s4 o4
theorem snd_callt {x : Str} {id : String} {p0 : Pos} {f : List T → Option W} {i : E} {e : Expr} (hc : CallR X (.type id) (rPL X.K f)) (hg : Gl X x) (hm : X.mg x = none) (hv : bootBuiltins x = some (.type id)) (hs : PA X (e :: es) (tEs X.K g is))
    (hn : x ≠ "__name__") (hdb : (x == ("__debug__" : Str)) = false) (he : starEach (e :: es) X.env = (false, eval e X.env) :: starEach es X.env) (hpl : (backTo pos (starEach es X.env)).any (·.1) = false)
    (ev : ∀ env, evE g.G g.C i env = (evEs g.G g.C is env).bind fun ws env1 => R.of (f (fzs ws)) env1) : PE X (.Call (.Name x p0) (e :: es) [] pos) (tE X.K g i) :=
  PE.imp (pe_callTy hc hg hm hv hs hn hdb he hpl) fun σ H Q ⟨Rt, env, A, rl, p⟩ => by
    rw [ev] at p
    refine ⟨Rt, env, A, rl, Post.seq p fun ws e1 vs H1 A1 B1 s1 o1 p1 => ?_⟩
    obtain ⟨w, ew, p2⟩ := Post.of p1
    refine ⟨_, fzs ws, w, s1.fzL0 o1, ew, fun v H' B mk => ?_⟩
    obtain ⟨s4, o4⟩ := s1.made mk
    exact p2 v H' A1 B s4 o4
end
end Ev
/-! Ev7: what is walked; list comprehensions. -/
namespace Ev
open PySem L2

/-- J walks the trees ts while P holds -/
structure Jt (K : PySem.W.Frag) (J : L2.It) (ts : List T) (P : Hp → (Addr → Prop) → Prop) : Prop where
  mono : ∀ (H H' : Hp) (av av' : Addr → Prop), P H av → (∀ b o, H b = some o → ¬ av b → H' b = some o) → (∀ b xs, Rd H b (.tup xs) → Rd H' b (.tup xs)) → (∀ b, av' b → av b ∨ H b = none) → P H' av'
  stop : ∀ (H : Hp) av (i : Nat), P H av → ts.length ≤ i → J.stop i H
  go : ∀ (H : Hp) av (i : Nat) t, P H av → ts[i]? = some t → J.go i H
  yld : ∀ (H : Hp) av (i : Nat) t x H', P H av → ts[i]? = some t → J.yld i H x H' → (∀ b o, H b = some o → H' b = some o) ∧ Fz K H' av t x
section
variable {K : PySem.W.Frag}
theorem jt_list {a : Addr} {ts : List T} : Jt K (Itl K a) ts fun H av => Fz K H av (.lst ts) (.ref a) where
  mono := fun H H' av av' p k t h => Fz.mono k t h _ _ p
  stop := fun H av i p hi => by
    obtain ⟨a', xs, e, hs, _, hl⟩ := p
    cases e
    exact ⟨xs, .inl hs, by rw [← hl.len]; exact hi⟩
  go := fun H av i t p hi => by
    obtain ⟨a', xs, e, hs, _, hl⟩ := p
    cases e
    obtain ⟨v, hv, _⟩ := hl.get hi
    exact ⟨xs, v, .inl hs, hv⟩
  yld := fun H av i t x H' p hi y => by
    obtain ⟨a', xs, e, hs, _, hl⟩ := p
    cases e
    obtain ⟨e1, y⟩ := y
    subst e1
    obtain ⟨v, hv, hf⟩ := hl.get hi
    have := y xs (.inl hs)
    rw [hv] at this
    cases this
    exact ⟨fun _ _ q => q, hf⟩
theorem jt_tup {a : Addr} {ts : List T} : Jt K (Itt K a) ts fun H av => Fz K H av (.tup ts) (.ref a) where
  mono := fun H H' av av' p k t h => Fz.mono k t h _ _ p
  stop := fun H av i p hi => by
    obtain ⟨a', xs, e, hs, hl⟩ := p
    cases e
    exact ⟨xs, hs, by rw [← hl.len]; exact hi⟩
  go := fun H av i t p hi => by
    obtain ⟨a', xs, e, hs, hl⟩ := p
    cases e
    obtain ⟨v, hv, _⟩ := hl.get hi
    exact ⟨xs, v, hs, hv⟩
  yld := fun H av i t x H' p hi y => by
    obtain ⟨a', xs, e, hs, hl⟩ := p
    cases e
    obtain ⟨e1, y⟩ := y
    subst e1
    obtain ⟨v, hv, hf⟩ := hl.get hi
    have := y xs hs
    rw [hv] at this
    cases this
    exact ⟨fun _ _ q => q, hf⟩
theorem rngI_len (a : Int) : ∀ n, (rngI a n).length = n := by
  intro n
  induction n generalizing a with
  | zero => rfl
  | succ n ih => show (rngI (a + 1) n).length + 1 = _; rw [ih]
theorem rngI_get : ∀ (n : Nat) (a : Int) (i : Nat), i < n → (rngI a n)[i]? = some (a + i)
  | 0, _, _, h => absurd h (Nat.not_lt_zero _)
  | n + 1, a, 0, _ => by show some a = _; rw [Int.natCast_zero, Int.add_zero]
  | n + 1, a, i + 1, h => by
    show (rngI (a + 1) n)[i]? = _
    rw [rngI_get n (a + 1) i (by omega)]
    congr 1
    omega
theorem jt_rng {lo : Int} {n : Nat} : Jt K (Itr lo n) ((rngI lo n).map T.int) fun _ _ => True where
  mono := fun _ _ _ _ _ _ _ _ => trivial
  stop := fun H av i _ hi => by rw [List.length_map, rngI_len] at hi; exact hi
  go := fun H av i t _ hi => by
    have := (List.getElem?_eq_some_iff.mp hi).1
    rw [List.length_map, rngI_len] at this
    exact this
  yld := fun H av i t x H' _ hi y => by
    obtain ⟨e1, e2⟩ := y
    subst e1
    have hl := (List.getElem?_eq_some_iff.mp hi).1
    rw [List.length_map, rngI_len] at hl
    rw [List.getElem?_map, rngI_get n lo i hl] at hi
    cases hi
    exact ⟨fun _ _ q => q, e2⟩
end
section
variable (K : PySem.W.Frag) (g : Cfg)
def PJ : List T → L2.It → Hp → (Addr → Prop) → List Addr → Prop := fun ts J H av B => B = [] ∧ ∃ P, Jt K J ts P ∧ P H av
def tI (i : Ev.It) : TI := fun σ H Q => ∃ Rt env A, Rl K Rt H σ env A ∧ Post K g (PJ K) Rt σ H A (evI g.G g.C i env) Q
end
theorem PI.imp {X : Cx} {tg e : Expr} {t t' : TI} (h : PI X tg e t) (i : ∀ σ H Q, t' σ H Q → t σ H Q) : PI X tg e t' := ⟨fun pins s σ H Q I q => h.run pins s σ H Q I (i σ H Q q)⟩
theorem okR_of {n : Int} (h : okR n = true) : -8388608 ≤ n ∧ n ≤ 8388608 := by
  unfold okR at h
  rw [Bool.and_eq_true] at h
  exact ⟨of_decide_eq_true h.1, of_decide_eq_true h.2⟩
section
variable {X : Cx} {g : Cfg} {tg a b : Expr} {ia ib : E} {pos p0 : Pos}
/-- a list or a tuple is walked -/
def iSeq (K : PySem.W.Frag) (tl : TE) : TI := fun σ H R => tl σ H fun x H1 => ∃ a, x = .ref a ∧ ((∃ xs, SqL K H1 a xs ∧ R (Itl K a) H1) ∨ ∃ xs, SqT K H1 a xs ∧ R (Itt K a) H1)
theorem pi_seq {l : Expr} {tl : TE} (hl : PE X l tl) : PI X tg l (iSeq X.K tl) := by
  constructor
  intro pins s σ H R I h
  refine thn (hl.run pins s σ H _ I h) fun v s1 q0 => ?_
  obtain ⟨x, H1, I1, r1, a, e, q⟩ := q0
  subst e
  cases r1
  have me : ∀ b ∈ [s1.heap.objs.size], FpOk X pins H1 b := fun b hb => by
    rw [List.mem_singleton.mp hb]
    exact I1.fpOk (Nat.le_refl _) (I1.hok.fresh (Nat.le_refl _))
  rcases q with ⟨xs, hq, q⟩ | ⟨xs, hq, q⟩
  · obtain ⟨its, rv, pl, hz⟩ := I1.list hq
    refine wpAny_pyIter_list pl.isList ⟨s1.heap.objs.size, [s1.heap.objs.size], _, _, H1, rfl, ?_, turn_list a _, ?_, me, q⟩
    · exact I1.kept (t' := s1.toks) fun b o e => Heap.get?_push_of_some _ e
    · exact ⟨_, Heap.get?_push_size _ rfl, rfl, rfl⟩
  · obtain ⟨its, rv, pl, hz⟩ := I1.tuple hq
    refine wpAny_pyIter_tuple (show s1.heap.IsTuple a its.toArray from pl) ⟨s1.heap.objs.size, [s1.heap.objs.size], _, _, H1, rfl, ?_, turn_tuple a _, ?_, me, q⟩
    · exact I1.kept (t' := s1.toks) fun b o e => Heap.get?_push_of_some _ e
    · exact ⟨_, Heap.get?_push_size _ rfl, rfl, rfl⟩
theorem sni_e (ha : PE X a (tE X.K g ia)) : PI X tg a (tI X.K g (.e ia)) :=
  PI.imp (pi_seq ha) fun σ H Rr ⟨Rt, env, A, rl, p⟩ => by
    refine ⟨Rt, env, A, rl, Post.seq p fun x e1 v1 H1 A1 B1 s1 o1 p1 => ?_⟩
    have fz := s1.fz0 o1
    cases e : x.fz with
    | lst ts =>
      simp only [e] at p1
      rw [e] at fz
      obtain ⟨a', xs, e', hs, na, hl⟩ := id fz
      refine ⟨a', e', .inl ⟨xs, .inl hs, p1 (Itl X.K a') H1 A1 [] s1.drop0 ⟨rfl, _, jt_list, ?_⟩⟩⟩
      rw [← e']; exact fz
    | tup ts =>
      simp only [e] at p1
      rw [e] at fz
      obtain ⟨a', xs, e', hs, hl⟩ := id fz
      refine ⟨a', e', .inr ⟨xs, hs, p1 (Itt X.K a') H1 A1 [] s1.drop0 ⟨rfl, _, jt_tup, ?_⟩⟩⟩
      rw [← e']; exact fz
    | _ => simp only [e] at p1; exact p1.elim
theorem sni_rng1 (hg : Gl X "range") (hm : X.mg "range" = none) (ha : PE X a (tE X.K g ia)) (hs : starEach [a] X.env = [(false, eval a X.env)]) : PI X tg (.Call (.Name "range" p0) [a] [] pos) (tI X.K g (.rng ia .no)) :=
  PI.imp (pi_range1 (ta := tCons (tE X.K g ia) tNil) hg hm (pa_cons ha pa_nil hs) hs) fun σ H Rr ⟨Rt, env, A, rl, p⟩ => by
    refine ⟨Rt, env, A, rl, Post.seq p fun x e1 v1 H1 A1 B1 s1 o1 p1 => ?_⟩
    have p2 : Post X.K g (PJ X.K) Rt σ H A (R.of ((rngT x.fz none).map fun is => is.map T.int) e1) Rr := p1
    obtain ⟨ts, et, p3⟩ := Post.of p2
    obtain ⟨is, ei, e2⟩ := Option.map_eq_some_iff.mp et
    subst e2
    cases e : x.fz with
    | int n =>
      rw [e] at ei
      have ei' : (if okR n = true then some (rngI 0 n.toNat) else none) = some is := ei
      by_cases c : okR n = true
      · rw [if_pos c] at ei'
        cases ei'
        have c' := okR_of c
        exact ⟨n, by rw [fz_int e o1], by omega, by omega, p3 (Itr 0 n.toNat) H1 A1 [] s1.drop0 ⟨rfl, _, jt_rng, trivial⟩⟩
      · rw [if_neg c] at ei'; cases ei'
    | _ => rw [e] at ei; cases ei
theorem fzo_int {w : W} {i : Int} {K : PySem.W.Frag} {H : Hp} {av : Addr → Prop} {v : V} {B : List Addr} (e : w.fz = .int i) (ow : Own K H av w v B) : B = [] := by
  cases w with
  | val t => exact ow.1
  | lst ws => cases (show T.lst (fzs ws) = .int i from e)
  | nd n ws => cases (show T.nd n (fzs ws) = .int i from e)
  | set ts => cases (show T.set ts = .int i from e)
theorem sni_rng2 (hg : Gl X "range") (hm : X.mg "range" = none) (ha : PE X a (tE X.K g ia)) (hb : PE X b (tE X.K g ib)) (hs : starEach [a, b] X.env = [(false, eval a X.env), (false, eval b X.env)]) (hs2 : starEach [b] X.env = [(false, eval b X.env)]) :
    PI X tg (.Call (.Name "range" p0) [a, b] [] pos) (tI X.K g (.rng ia (.so ib))) :=
  PI.imp (pi_range2 (ta := tCons (tE X.K g ia) (tCons (tE X.K g ib) tNil)) hg hm (pa_cons ha (pa_cons hb pa_nil hs2) (by rw [hs, hs2])) hs hs2) fun σ H Rr ⟨Rt, env, A, rl, p⟩ => by
    refine ⟨Rt, env, A, rl, Post.seq p fun x e1 v1 H1 A1 B1 s1 o1 p1 => ?_⟩
    have p1' : Post X.K g (PJ X.K) Rt σ H A ((evE g.G g.C ib e1).bind fun w env1 => (match w.fz with | .int i => R.ok (some i) env1 | _ => .no).bind fun (y : Option Int) env2 => R.of ((rngT x.fz y).map fun (is : List Int) => is.map T.int) env2) Rr := by
      have : Post X.K g (PJ X.K) Rt σ H A (((evE g.G g.C ib e1).bind fun w env1 => (match w.fz with | .int i => R.ok (some i) env1 | _ => .no)).bind fun (y : Option Int) env2 => R.of ((rngT x.fz y).map fun (is : List Int) => is.map T.int) env2) Rr := p1
      cases er : evE g.G g.C ib e1 with
      | ok w e2 => rw [er] at this; exact this
      | exc c t e2 => rw [er] at this; exact this
      | no => rw [er] at this; exact this
    refine ⟨RtB B1 Rt, e1, A1, s1.rl, Post.seq2 s1 p1' fun y e2 v2 H2 A2 B2 s2 o2 p2 => ?_⟩
    have s3 := s1.next s2
    have w1 := s1.own s2 o1
    cases ey : y.fz with
    | int j =>
      simp only [ey] at p2
      have p2' : Post X.K g (PJ X.K) Rt σ H A (R.of ((rngT x.fz (some j)).map fun is => is.map T.int) e2) Rr := p2
      obtain ⟨ts, et, p3⟩ := Post.of p2'
      obtain ⟨is, ei, e4⟩ := Option.map_eq_some_iff.mp et
      subst e4
      cases e : x.fz with
      | int n =>
        rw [e] at ei
        have ei' : (if (okR n && okR j) = true then some (rngI n (j - n).toNat) else none) = some is := ei
        by_cases c : (okR n && okR j) = true
        · rw [if_pos c] at ei'
          cases ei'
          rw [Bool.and_eq_true] at c
          have c1 := okR_of c.1
          have c2 := okR_of c.2
          exact ⟨n, j, by rw [fz_int e o1, fz_int ey o2], ⟨by omega, by omega, by omega, by omega⟩, p3 (Itr n (j - n).toNat) H2 A2 [] s3.drop0 ⟨rfl, _, jt_rng, trivial⟩⟩
        · rw [if_neg c] at ei'; cases ei'
      | _ => rw [e] at ei; cases ei
    | _ => simp only [ey] at p2; exact p2.elim
end
end Ev
/-! Ev8: targets; list comprehensions. -/
namespace Ev
open PySem L2
section
variable {K : PySem.W.Frag} {Rt : Addr → Prop} {H H1 H2 H' : Hp} {σ σ' : St} {env env1 env2 : Env} {A A1 A2 B B' B1 B2 : List Addr} {p D : Addr} {o : HO} {w : W} {ws : List W} {v y : V} {vs : List V} {t : T} {ts : List T} {av : Addr → Prop}
/-- a slot that owns nothing -/
def Bare (env : Env) (i : Nat) : Prop := env[i]? = some none ∨ ∃ t, env[i]? = some (some (.val t))
theorem hidOk_of {own : List Nat} (h : hidOk env own = true) : ∀ i ∈ own, Bare env i := fun i hi => by
  have h := List.all_eq_true.mp h i hi
  unfold Bare
  cases e : env[i]? with
  | none => simp [e] at h
  | some x =>
    cases x with
    | none => exact .inl rfl
    | some w =>
      cases w with
      | val t => exact .inr ⟨t, rfl⟩
      | lst ws => simp [e] at h
      | nd n ws => simp [e] at h
      | set ws => simp [e] at h
theorem Bare.lt {i : Nat} (h : Bare env i) : i < env.length := by
  rcases h with h | ⟨t, h⟩ <;> exact (List.getElem?_eq_some_iff.mp h).1
/-- setting a bare slot -/
theorem RE.bare {i : Nat} (h : RE K H av env σ A) (b : Bare env i) : (∀ s, RE K H av (env.set i none) (σ.set i s) A) ∧ ∀ t v, Fz K H av t v → RE K H av (env.set i (some (.val t))) (σ.set i (some v)) A := by
  obtain ⟨A1, B, A2, eA, hn, hw, hu⟩ := RE.slot env σ A i h b.lt
  have eB : B = [] := by
    rcases b with b | ⟨t, b⟩
    · exact hn b
    · obtain ⟨v, _, ow⟩ := hw _ b
      exact ow.1
  subst eB
  have eA' : A = A1 ++ A2 := by rw [eA]; rfl
  obtain ⟨q1, q2⟩ := hu H av (fun _ _ q _ => q) (fun _ _ q => q) fun b z => .inl z
  rw [eA']
  exact ⟨q1, fun t v f => q2 (.val t) v [] ⟨rfl, f⟩⟩
theorem wipeE_bare {i : Nat} : ∀ (own : List Nat), (∀ j ∈ own, Bare env j) → Bare env i → Bare (wipeE env own) i
  | [], _, h => h
  | j :: r, ho, h => by
    have ih := wipeE_bare (i := i) r (fun k hk => ho k (List.mem_cons_of_mem _ hk)) h
    unfold wipeE
    by_cases e : j = i
    · subst e
      exact .inl (List.getElem?_set_self ih.lt)
    · unfold Bare
      rw [List.getElem?_set_ne e]
      exact ih
theorem RE.wipe : ∀ (own : List Nat), (∀ j ∈ own, Bare env j) → RE K H av env σ A → RE K H av (wipeE env own) (L2.wipe σ own) A
  | [], _, h => h
  | j :: r, ho, h => by
    have ih := RE.wipe r (fun k hk => ho k (List.mem_cons_of_mem _ hk)) h
    exact (RE.bare ih (wipeE_bare r (fun k hk => ho k (List.mem_cons_of_mem _ hk)) (ho j List.mem_cons_self))).1 none
theorem wipeE_none : ∀ (own : List Nat) (i : Nat), i ∈ own → i < env.length → (wipeE env own)[i]? = some none
  | j :: r, i, hi, hl => by
    unfold wipeE
    have len : ∀ r : List Nat, (wipeE env r).length = env.length := fun r => by
      induction r with
      | nil => rfl
      | cons a r ih => unfold wipeE; rw [List.length_set, ih]
    by_cases e : j = i
    · subst e
      exact List.getElem?_set_self (by rw [len]; exact hl)
    · rw [List.getElem?_set_ne e]
      rcases List.mem_cons.mp hi with z | z
      · exact absurd z.symm e
      · exact wipeE_none r i z hl
/-- the slots of own names as they were -/
def backS (old σ : St) : List Nat → St
  | [] => σ
  | i :: r => (backS old σ r).set i ((old[i]?).getD none)
theorem backS_len (old σ : St) : ∀ own : List Nat, (backS old σ own).length = σ.length
  | [] => rfl
  | i :: r => by unfold backS; rw [List.length_set, backS_len old σ r]
theorem backS_get (old σ : St) (j : Nat) (hj : j < σ.length) (hl : old.length = σ.length) : ∀ own : List Nat, (backS old σ own)[j]? = if j ∈ own then old[j]? else σ[j]?
  | [] => by rw [if_neg (by simp)]; rfl
  | i :: r => by
    unfold backS
    by_cases e : i = j
    · subst e
      rw [List.getElem?_set_self (by rw [backS_len]; exact hj), if_pos List.mem_cons_self]
      rw [List.getElem?_eq_getElem (by omega)]
      rfl
    · rw [List.getElem?_set_ne e, backS_get old σ j hj hl r]
      by_cases c : j ∈ r
      · rw [if_pos c, if_pos (List.mem_cons_of_mem _ c)]
      · rw [if_neg c, if_neg (fun z => (List.mem_cons.mp z).elim (fun z => e z.symm) c)]
theorem backS_wipe (own : List Nat) : backS σ (L2.wipe σ own) own = σ := by
  have hl : σ.length = (L2.wipe σ own).length := (wipe_length σ own).symm
  refine List.ext_getElem? fun j => ?_
  by_cases hj : j < (L2.wipe σ own).length
  · rw [backS_get σ _ j hj hl own]
    by_cases c : j ∈ own
    · rw [if_pos c]
    · rw [if_neg c, wipe_out c]
  · rw [List.getElem?_eq_none (by rw [backS_len]; omega), List.getElem?_eq_none (by omega)]
/-- the own slots come back -/
theorem RE.back {old : Env} {sold : St} : ∀ (own : List Nat), (∀ j ∈ own, Bare env j) → (∀ j ∈ own, old[j]? = some none ∨ ∃ t v, old[j]? = some (some (.val t)) ∧ sold[j]? = some (some v) ∧ Fz K H av t v) → RE K H av env σ A →
    RE K H av (backE old env own) (backS sold σ own) A ∧ ∀ i, Bare env i → Bare (backE old env own) i
  | [], _, _, h => ⟨h, fun _ b => b⟩
  | j :: r, hb, ho, h => by
    obtain ⟨ih, ib⟩ := RE.back (sold := sold) (old := old) r (fun k hk => hb k (List.mem_cons_of_mem _ hk)) (fun k hk => ho k (List.mem_cons_of_mem _ hk)) h
    have bj := ib j (hb j List.mem_cons_self)
    have q := RE.bare ih bj
    unfold backE backS
    rcases ho j List.mem_cons_self with e | ⟨t, v, e, es, f⟩
    · rw [e]
      refine ⟨q.1 _, fun i b => ?_⟩
      by_cases c : j = i
      · subst c
        exact .inl (List.getElem?_set_self bj.lt)
      · unfold Bare
        rw [List.getElem?_set_ne c]
        exact ib i b
    · rw [e, es]
      refine ⟨q.2 t v f, fun i b => ?_⟩
      by_cases c : j = i
      · subst c
        exact .inr ⟨t, List.getElem?_set_self bj.lt⟩
      · unfold Bare
        rw [List.getElem?_set_ne c]
        exact ib i b
/-- an owned object is rewritten -/
theorem Sx.wr (h : Sx K Rt σ H A H1 env1 A1 B) (hD : D ∈ B) (hn : ∀ xs, ¬ Rd H1 D (.tup xs)) : Sx K Rt σ H A (upd H1 D o) env1 A1 B where
  go := ⟨fun b u q n => by
      have e : b ≠ D := fun z => by
        subst z
        rcases h.go.new b (List.mem_append_right _ hD) with z | z
        · exact n z
        · rw [z] at q; cases q
      rw [upd_ne e]
      exact h.go.keep b u q n, fun b xs q => by
      have q1 := h.go.tups b xs q
      have e : b ≠ D := fun z => by subst z; exact hn xs q1
      exact Rd.mono q1 fun u q => by rw [upd_ne e]; exact q, h.go.new⟩
  nd := h.nd
  rt := h.rt
  th := fun b z => by
    by_cases e : b = D
    · subst e; rw [upd_same]; exact fun q => by cases q
    · rw [upd_ne e]; exact h.th b z
  bth := fun b z => by
    by_cases e : b = D
    · subst e; rw [upd_same]; exact fun q => by cases q
    · rw [upd_ne e]; exact h.bth b z
  re := RE.mono env1 σ A1 (fun b u q c => by
    have e : b ≠ D := fun z => by
      subst z
      rcases c with c | c
      · exact h.out hD c
      · exact c (.inl (List.mem_append_right _ hD))
    rw [upd_ne e]; exact q) (fun b xs q => by
    have e : b ≠ D := fun z => by subst z; exact hn xs q
    exact Rd.mono q fun u q => by rw [upd_ne e]; exact q) (fun b z => .inl z) h.re
theorem Sx.ext (h : Sx K Rt σ H A H1 env1 A1 B) (x : ∀ b u, H1 b = some u → H2 b = some u) : Sx K Rt σ H A H2 env1 A1 B where
  go := ⟨fun b u q n => x b u (h.go.keep b u q n), fun b xs q => Rd.mono (h.go.tups b xs q) fun u q => x b u q, h.go.new⟩
  nd := h.nd
  rt := h.rt
  th := fun b z q => by
    cases e : H1 b with
    | none => exact h.th b z e
    | some u => rw [x b u e] at q; cases q
  bth := fun b z q => by
    cases e : H1 b with
    | none => exact h.bth b z e
    | some u => rw [x b u e] at q; cases q
  re := RE.mono env1 σ A1 (fun b u q c => x b u q) (fun b xs q => Rd.mono q fun u q => x b u q) (fun b z => .inl z) h.re
theorem OwnL.snoc : ∀ (ws : List W) (xs : List V) (B : List Addr), OwnL K H av ws xs B → Own K H av w y B2 → OwnL K H av (ws ++ [w]) (xs ++ [y]) (B ++ B2)
  | [], xs, B, g1, g2 => by
    obtain ⟨r1, r2⟩ := g1
    subst r1 r2
    exact ⟨y, [], B2, [], rfl, by simp, g2, rfl, rfl⟩
  | w' :: ws, xs, B, g1, g2 => by
    obtain ⟨v, r, C1, C2, r1, r2, g3, g4⟩ := g1
    subst r1 r2
    exact ⟨v, r ++ [y], C1, C2 ++ B2, rfl, by rw [List.append_assoc], g3, OwnL.snoc ws r C2 g4 g2⟩
/-- one item more in an owned list -/
theorem Own.push (h : Own K H av (.lst ws) (.ref D) (D :: B)) (hw : Own K H av w y B2) (nD : D ∉ B ++ B2) (aD : av D) : ∃ xs, H D = some (.lst xs) ∧ xs.length = ws.length ∧ Own K (upd H D (.lst (xs ++ [y]))) av (.lst (ws ++ [w])) (.ref D) (D :: (B ++ B2)) := by
  obtain ⟨a, xs, B0, e1, e2, hD, hl⟩ := h
  cases e1
  have eB : B = B0 := (List.cons.inj e2).2
  subst eB
  have lD : ∀ xs', ¬ Rd H D (.tup xs') := fun xs' z => by rcases z with z | ⟨o, z⟩ <;> (rw [hD] at z; cases z)
  have kp : ∀ (C : List Addr), D ∉ C → ∀ b u, H b = some u → (b ∈ C ∨ ¬ av b) → upd H D (.lst (xs ++ [y])) b = some u := fun C nC b u q c => by
    have e : b ≠ D := fun z => by
      subst z
      rcases c with c | c
      · exact nC c
      · exact c aD
    rw [upd_ne e]; exact q
  have tp : ∀ b xs', Rd H b (.tup xs') → Rd (upd H D (.lst (xs ++ [y]))) b (.tup xs') := fun b xs' q => by
    have e : b ≠ D := fun z => by subst z; exact lD xs' q
    exact Rd.mono q fun u q => by rw [upd_ne e]; exact q
  have n1 : D ∉ B := fun z => nD (List.mem_append_left _ z)
  have n2 : D ∉ B2 := fun z => nD (List.mem_append_right _ z)
  refine ⟨xs, hD, (OwnL.len ws xs B hl).symm, D, xs ++ [y], B ++ B2, rfl, rfl, upd_same, ?_⟩
  have g1 := OwnL.mono ws xs B (kp B n1) tp (fun b z => .inl z) hl
  have g2 := Own.mono w y B2 (kp B2 n2) tp (fun b z => .inl z) hw
  exact OwnL.snoc ws xs B g1 g2
end
section
variable {K : PySem.W.Frag}
/-! ### targets -/
def tgs : Tg → List Nat
  | .var i => [i]
  | .tup is => is
def gNames : List Nat → TGs
  | [] => gNil
  | i :: r => gCons (gName i) (gNames r)
def gT (K : PySem.W.Frag) : Tg → TG
  | .var i => gName i
  | .tup is => gTup K is.length (gNames is)
theorem Rl.put {Rt : Addr → Prop} {H : Hp} {σ : St} {env : Env} {A : List Addr} {i : Nat} {t : T} {v : V} (h : Rl K Rt H σ env A) (hi : i < env.length) (f : Fz K H (Av A Rt) t v) :
    ∃ A', (∀ b ∈ A', b ∈ A) ∧ Rl K Rt H (σ.set i (some v)) (env.set i (some (.val t))) A' := by
  obtain ⟨A1, B, A2, eA, hn, hw, hu⟩ := RE.slot env σ A i h.re hi
  subst eA
  obtain ⟨nd, out⟩ := nodup_mid h.nd
  have sub : ∀ b ∈ A1 ++ A2, b ∈ A1 ++ (B ++ A2) := fun b z => by
    rcases List.mem_append.mp z with z | z
    · exact List.mem_append_left _ z
    · exact List.mem_append_right _ (List.mem_append_right _ z)
  have suba : ∀ b, Av (A1 ++ A2) Rt b → Av (A1 ++ (B ++ A2)) Rt b := fun b z => z.imp (sub b) id
  refine ⟨A1 ++ A2, sub, nd, fun b hb => h.rt b (sub b hb), h.th, ?_⟩
  exact (hu H (Av (A1 ++ A2) Rt) (fun _ _ q _ => q) (fun _ _ q => q) fun b z => .inl (suba b z)).2 (.val t) v [] ⟨rfl, Fz.mono (fun _ _ q _ => q) (fun _ _ q => q) (fun b z => .inl (suba b z)) t v f⟩
theorem names_ok {Rt : Addr → Prop} {H : Hp} : ∀ (is : List Nat) (ts : List T) (vs : List V) (σ : St) (env : Env) (A : List Addr) (Q : St → Hp → Prop), is.length = ts.length → (∀ i ∈ is, i < env.length) → Rl K Rt H σ env A → FzL K H (Av A Rt) ts vs →
    (∀ σ' A', (∀ b ∈ A', b ∈ A) → Rl K Rt H σ' ((is.zip ts).foldl (fun e p => e.set p.1 (some (.val p.2))) env) A' → (∀ j, j ∉ is → σ'[j]? = σ[j]?) → Q σ' H) → gNames is vs σ H Q
  | [], ts, vs, σ, env, A, Q, hl, _, h, f, k => by
    cases ts with
    | nil =>
      cases (show vs = [] from f)
      exact ⟨rfl, k σ A (fun _ z => z) h fun _ _ => rfl⟩
    | cons t ts => cases hl
  | i :: is, ts, vs, σ, env, A, Q, hl, hi, h, f, k => by
    cases ts with
    | nil => cases hl
    | cons t ts =>
      obtain ⟨v, r, rfl, f1, f2⟩ := f
      obtain ⟨A1, sub, h1⟩ := h.put (hi i List.mem_cons_self) f1
      refine ⟨v, r, rfl, ?_⟩
      refine names_ok is ts r (σ.set i (some v)) (env.set i (some (.val t))) A1 Q (by simpa using hl) (fun j hj => by rw [List.length_set]; exact hi j (List.mem_cons_of_mem _ hj)) h1
        (FzL.mono (fun _ _ q _ => q) (fun _ _ q => q) (fun b z => .inl (z.imp (sub b) id)) ts r f2) fun σ' A' s' h' ks => k σ' A' (fun b hb => sub b (s' b hb)) h' fun j hj => ?_
      rw [ks j (fun z => hj (List.mem_cons_of_mem _ z)), List.getElem?_set_ne (fun z : i = j => hj (by rw [← z]; exact List.mem_cons_self))]
theorem tg_ok {Rt : Addr → Prop} {H : Hp} {σ : St} {env env1 : Env} {A : List Addr} {t : T} {v : V} {Q : St → Hp → Prop} (tg : Tg) (hi : ∀ i ∈ tgs tg, i < env.length) (h : Rl K Rt H σ env A) (f : Fz K H (Av A Rt) t v) (e : tgE tg t env = some env1)
    (k : ∀ σ' A', (∀ b ∈ A', b ∈ A) → Rl K Rt H σ' env1 A' → (∀ j, j ∉ tgs tg → σ'[j]? = σ[j]?) → Q σ' H) : gT K tg v σ H Q := by
  cases tg with
  | var i =>
    have e' : (if i < env.length then some (env.set i (some (.val t))) else none) = some env1 := e
    rw [if_pos (hi i List.mem_cons_self)] at e'
    cases e'
    obtain ⟨A1, sub, h1⟩ := h.put (hi i List.mem_cons_self) f
    exact k _ A1 sub h1 fun j hj => List.getElem?_set_ne fun z : i = j => hj (by rw [← z]; exact List.mem_cons_self)
  | tup is =>
    cases t with
    | tup ts =>
      have e' : (if is.length = ts.length then some ((is.zip ts).foldl (fun e p => e.set p.1 (some (W.val p.2))) env) else none) = some env1 := e
      by_cases c : is.length = ts.length
      · rw [if_pos c] at e'
        cases e'
        obtain ⟨a, xs, rfl, hs, hl⟩ := f
        exact ⟨a, xs, rfl, hs, by rw [← hl.len, c], names_ok is ts xs σ env A Q c hi h hl k⟩
      · rw [if_neg c] at e'; cases e'
    | _ => cases e
end

section
variable {X : Cx} {g : Cfg}
/-- within a comprehension nothing may be raised -/
def Cfg.mute (g : Cfg) : Cfg := { g with W := fun _ _ _ _ => False }
theorem tgE_len {tg : Tg} {t : T} {env env1 : Env} (e : tgE tg t env = some env1) : env1.length = env.length := by
  cases tg with
  | var i =>
    have e' : (if i < env.length then some (env.set i (some (W.val t))) else none) = some env1 := e
    by_cases c : i < env.length
    · rw [if_pos c] at e'; cases e'; rw [List.length_set]
    · rw [if_neg c] at e'; cases e'
  | tup is =>
    cases t with
    | tup ts =>
      have e' : (if is.length = ts.length then some ((is.zip ts).foldl (fun e p => e.set p.1 (some (W.val p.2))) env) else none) = some env1 := e
      by_cases c : is.length = ts.length
      · rw [if_pos c] at e'
        cases e'
        have : ∀ (l : List (Nat × T)) (env : Env), (l.foldl (fun e p => e.set p.1 (some (W.val p.2))) env).length = env.length := by
          intro l
          induction l with
          | nil => intro env; rfl
          | cons p l ih => intro env; rw [List.foldl_cons, ih, List.length_set]
        exact this _ _
      · rw [if_neg c] at e'; cases e'
    | _ => cases e
theorem wipe_in {σ : St} : ∀ (own : List Nat) (j : Nat), j ∈ own → j < σ.length → (L2.wipe σ own)[j]? = some none
  | i :: r, j, hj, hl => by
    show ((L2.wipe σ r).set i none)[j]? = _
    by_cases e : i = j
    · subst e
      exact List.getElem?_set_self (by rw [wipe_length]; exact hl)
    · rw [List.getElem?_set_ne e]
      rcases List.mem_cons.mp hj with z | z
      · exact absurd z.symm e
      · exact wipe_in r j z hl
theorem wipe_eq {σ σ2 : St} {own : List Nat} (hl : σ2.length = σ.length) (h : ∀ j, j ∉ own → σ2[j]? = σ[j]?) : L2.wipe σ2 own = L2.wipe σ own := by
  refine List.ext_getElem? fun j => ?_
  by_cases hj : j < σ.length
  · by_cases c : j ∈ own
    · rw [wipe_in own j c hj, wipe_in own j c (by omega)]
    · rw [wipe_out c, wipe_out c, h j c]
  · rw [List.getElem?_eq_none (by rw [wipe_length]; omega), List.getElem?_eq_none (by rw [wipe_length]; omega)]
section
variable {K : PySem.W.Frag} {Rt : Addr → Prop} {H H1 H2 : Hp} {σ σ2 : St} {env1 env2 : Env} {A A1 A2 B B1 B2 : List Addr}
theorem Sx.retg (s : Sx K Rt σ H A H1 env1 A1 B) (r : Rl K (RtB B Rt) H1 σ2 env2 A2) (sub : ∀ b ∈ A2, b ∈ A1) : Sx K Rt σ2 H A H1 env2 A2 B where
  go := s.go.sub fun b hb => by
    rcases List.mem_append.mp hb with z | z
    · exact List.mem_append_left _ (sub b z)
    · exact List.mem_append_right _ z
  nd := by
    have d := List.nodup_append.mp s.nd
    exact List.nodup_append.mpr ⟨r.nd, d.2.1, fun a ha b hb e => d.2.2 a (sub a ha) b hb e⟩
  rt := fun b hb => s.rt b (by
    rcases List.mem_append.mp hb with z | z
    · exact List.mem_append_left _ (sub b z)
    · exact List.mem_append_right _ z)
  th := s.th
  bth := s.bth
  re := RE.mono env2 σ2 A2 (fun b o q _ => q) (fun _ _ q => q) (fun b z => .inl (by
    rcases z with z | z
    · rcases List.mem_append.mp z with z | z
      · exact .inl z
      · exact .inr (.inl z)
    · exact .inr (.inr z))) r.re
theorem Sx.nextP {σ0 : St} {J : L2.It} {ts : List T} {P : Hp → (Addr → Prop) → Prop} (jt : Jt K J ts P) (h : Sx K Rt σ0 H A H1 env1 A1 B1) (n : Sx K (RtB B1 Rt) σ H1 A1 H2 env2 A2 B2) (p : P H1 (Av (A1 ++ B1) Rt)) : P H2 (Av (A2 ++ (B1 ++ B2)) Rt) :=
  jt.mono _ _ _ _ p (fun b o q c => n.go.keep b o q fun z => c (.inl (List.mem_append_left _ z))) n.go.tups (h.hav n)
end
theorem lc_ev {own : List Nat} {tgi : Tg} {it : Ev.It} {cs : Tts} {e : E} {σ : St} {H : Hp} {Q : VK} (hlen : ∀ i ∈ tgs tgi, i < X.N.length) (hσ : σ.length = X.N.length) (h : tE X.K g (.lc own tgi it cs e) σ H Q) :
    tLc (tI X.K g it) (gT X.K tgi) (tTs X.K g.mute cs) (tE X.K g.mute e) own σ H Q := by
  obtain ⟨Rt, env, A, rl, p⟩ := h
  have hel : env.length = X.N.length := by rw [RE.len _ _ _ rl.re, hσ]
  refine ⟨Rt, env, A, rl, Post.seqE p fun ts e1 J H1 A1 B1 er s1 o1 p1 => ?_⟩
  obtain ⟨rfl, P, jt, pP⟩ := o1
  intro D hD
  have p2 : Post X.K g (PO1 X.K) Rt σ H A (if (hidOk e1 own && tgIn tgi own) = true then (match lcL tgi own (evTs g.G g.C cs) (evE g.G g.C e) ts [] (wipeE e1 own) with
    | .ok ws env2 => .ok (.lst ws) (backE e1 env2 own)
    | _ => .no) else .no) Q := p1
  have c0 : (hidOk e1 own && tgIn tgi own) = true := by
    by_cases c : (hidOk e1 own && tgIn tgi own) = true
    · exact c
    · rw [if_neg c] at p2; exact p2.elim
  rw [if_pos c0] at p2
  rw [Bool.and_eq_true] at c0
  obtain ⟨hid, tin⟩ := c0
  have bare := hidOk_of hid
  cases el : lcL tgi own (evTs g.G g.C cs) (evE g.G g.C e) ts [] (wipeE e1 own) with
  | exc _ _ _ => rw [el] at p2; exact p2.elim
  | no => rw [el] at p2; exact p2.elim
  | ok wsF envF =>
  rw [el] at p2
  have re1 : RE X.K H1 (Av (A1 ++ []) Rt) e1 σ A1 := s1.re
  have len1 : e1.length = X.N.length := by rw [RE.len _ _ _ re1, hσ]
  -- the old values of the own slots, wherever what was frozen stands
  have olds : ∀ (Hc : Hp) (A' : List Addr), Go A1 H1 A' Hc → ∀ j ∈ own, e1[j]? = some none ∨ ∃ t v, e1[j]? = some (some (.val t)) ∧ σ[j]? = some (some v) ∧ Fz X.K Hc (Av A' Rt) t v := fun Hc A' go j hj => by
    rcases bare j hj with z | ⟨t, z⟩
    · exact .inl z
    · obtain ⟨_, _, _, _, _, hw, _⟩ := RE.slot e1 σ A1 j re1 (List.getElem?_eq_some_iff.mp z).1
      obtain ⟨v, ev, ow⟩ := hw _ z
      refine .inr ⟨t, v, z, ev, Fz.mono (fun b o q n => go.keep b o q fun z => n (.inl (List.mem_append_left _ z))) go.tups (fun b z => ?_) t v ow.2⟩
      rcases z with z | z
      · exact (go.new b z).imp (fun z => .inl (List.mem_append_left _ z)) id
      · exact .inl (.inr z)
  have tgin : ∀ i ∈ tgs tgi, i ∈ own := fun i hi => by
    cases tgi with
    | var k =>
      rcases List.mem_cons.mp hi with rfl | z
      · exact List.contains_iff_mem.mp tin
      · cases z
    | tup is => exact List.contains_iff_mem.mp (List.all_eq_true.mp tin i hi)
  refine ⟨fun i m Hc => m = ts.length - i ∧ i ≤ ts.length ∧ ∃ envi Ai acc B, lcL tgi own (evTs g.G g.C cs) (evE g.G g.C e) (ts.drop i) acc envi = .ok wsF envF ∧ Sx X.K Rt (L2.wipe σ own) H A Hc envi Ai (D :: B) ∧
      Own X.K Hc (Av (Ai ++ (D :: B)) Rt) (.lst acc) (.ref D) (D :: B) ∧ P Hc (Av (Ai ++ (D :: B)) Rt) ∧ Go A1 H1 (Ai ++ (D :: B)) Hc ∧ ∀ j ∈ own, envi[j]? = some none, ⟨ts.length, ?_⟩, ?_⟩
  · -- the start
    have s2 : Sx X.K Rt σ H A (upd H1 D (.lst [])) e1 A1 [D] := s1.new hD
    refine ⟨by simp, Nat.zero_le _, wipeE e1 own, A1, [], [], by simpa using el, ⟨s2.go, s2.nd, s2.rt, s2.th, s2.bth, RE.wipe own bare s2.re⟩, ⟨D, [], [], rfl, rfl, upd_same, rfl, rfl⟩, ?_, ?_, fun j hj => wipeE_none own j hj (bare j hj).lt⟩
    · exact jt.mono _ _ _ _ pP (fun b o q _ => newkeep hD b o q) (newtups hD) (Sx.newav hD)
    · exact ((Go.refl (A := A1) (H := H1)).upd hD).sub fun b hb => by
        rcases List.mem_append.mp hb with z | z
        · exact List.mem_cons_of_mem _ z
        · rcases List.mem_cons.mp z with rfl | z
          · exact List.mem_cons_self
          · cases z
  · rintro i m Hc ⟨rfl, hile, envi, Ai, acc, B, eL, sx, ow, pH, go, nones⟩
    by_cases hlt : i < ts.length
    · have et : ts.drop i = ts[i] :: ts.drop (i + 1) := List.drop_eq_getElem_cons hlt
      have gi : ts[i]? = some ts[i] := List.getElem?_eq_getElem hlt
      rw [et] at eL
      have eL0 : (match tgE tgi ts[i] envi with
        | none => R.no
        | some env1 => (evTs g.G g.C cs env1).bind fun b env2 => match b with
          | true => (evE g.G g.C e env2).bind fun w env3 => if (decide (acc.length < 16777216) && hidOk env3 own) = true then lcL tgi own (evTs g.G g.C cs) (evE g.G g.C e) (ts.drop (i + 1)) (acc ++ [w]) (wipeE env3 own) else .no
          | false => if hidOk env2 own = true then lcL tgi own (evTs g.G g.C cs) (evE g.G g.C e) (ts.drop (i + 1)) acc (wipeE env2 own) else .no) = .ok wsF envF := eL
      cases etg : tgE tgi ts[i] envi with
      | none => rw [etg] at eL0; cases eL0
      | some env1 =>
      rw [etg] at eL0
      obtain ⟨b, env2, eb, eL1⟩ := bind_ok eL0
      refine .inr ⟨jt.go Hc _ i _ pH gi, fun Hn => ∃ envi Ai acc B, lcL tgi own (evTs g.G g.C cs) (evE g.G g.C e) (ts.drop (i + 1)) acc envi = .ok wsF envF ∧ Sx X.K Rt (L2.wipe σ own) H A Hn envi Ai (D :: B) ∧
        Own X.K Hn (Av (Ai ++ (D :: B)) Rt) (.lst acc) (.ref D) (D :: B) ∧ P Hn (Av (Ai ++ (D :: B)) Rt) ∧ Go A1 H1 (Ai ++ (D :: B)) Hn ∧ ∀ j ∈ own, envi[j]? = some none, fun Hn w => ⟨ts.length - (i + 1), by omega, rfl, hlt, w⟩, fun x Hy y => ?_⟩
      obtain ⟨ext, fx⟩ := jt.yld Hc _ i _ x Hy pH gi y
      have sx1 := sx.ext ext
      have ow1 : Own X.K Hy (Av (Ai ++ (D :: B)) Rt) (.lst acc) (.ref D) (D :: B) := Own.mono _ _ _ (fun b o q _ => ext b o q) (fun b xs q => Rd.mono q fun o q => ext b o q) (fun b z => .inl z) ow
      have pH1 : P Hy (Av (Ai ++ (D :: B)) Rt) := jt.mono _ _ _ _ pH (fun b o q _ => ext b o q) (fun b xs q => Rd.mono q fun o q => ext b o q) (fun b z => .inl z)
      have go1 : Go A1 H1 (Ai ++ (D :: B)) Hy := ⟨fun b o q n => ext b o (go.keep b o q n), fun b xs q => Rd.mono (go.tups b xs q) fun o q => ext b o q, go.new⟩
      have elen : envi.length = X.N.length := by rw [RE.len _ _ _ sx.re, wipe_length, hσ]
      have fx1 : Fz X.K Hy (Av Ai (RtB (D :: B) Rt)) ts[i] x := Fz.mono (fun _ _ q _ => q) (fun _ _ q => q) (fun b z => .inl (by
        rcases z with z | z | z
        · exact .inl (List.mem_append_left _ z)
        · exact .inl (List.mem_append_right _ z)
        · exact .inr z)) _ _ fx
      refine tg_ok tgi (fun j hj => by rw [elen]; exact hlen j hj) sx1.rl fx1 etg fun σ2 A2 sub rl2 kσ => ?_
      have l2 : σ2.length = σ.length := by
        rw [← RE.len _ _ _ rl2.re, tgE_len etg, elen, hσ]
      have weq : L2.wipe σ2 own = L2.wipe σ own := by
        refine wipe_eq l2 fun j hj => ?_
        rw [kσ j (fun z => hj (tgin j z)), wipe_out hj]
      refine ⟨weq, RtB (D :: B) Rt, env1, A2, rl2, ?_⟩
      have sxT : Sx X.K Rt σ2 H A Hy env1 A2 (D :: B) := sx1.retg rl2 sub
      have suba : ∀ b, Av (A2 ++ (D :: B)) Rt b → Av (Ai ++ (D :: B)) Rt b := fun b z => by
        rcases z with z | z
        · rcases List.mem_append.mp z with z | z
          · exact .inl (List.mem_append_left _ (sub b z))
          · exact .inl (List.mem_append_right _ z)
        · exact .inr z
      have owT : Own X.K Hy (Av (A2 ++ (D :: B)) Rt) (.lst acc) (.ref D) (D :: B) := Own.mono _ _ _ (fun _ _ q _ => q) (fun _ _ q => q) (fun b z => .inl (suba b z)) ow1
      have pT : P Hy (Av (A2 ++ (D :: B)) Rt) := jt.mono _ _ _ _ pH1 (fun _ _ q _ => q) (fun _ _ q => q) (fun b z => .inl (suba b z))
      have goT : Go A1 H1 (A2 ++ (D :: B)) Hy := go1.sub fun b hb => by
        rcases List.mem_append.mp hb with z | z
        · exact List.mem_append_left _ (sub b z)
        · exact List.mem_append_right _ z
      show Post X.K g.mute PBl (RtB (D :: B) Rt) σ2 Hy A2 (evTs g.G g.C cs env1) _
      rw [eb]
      intro b' H3 A3 B3 s3 hb3
      obtain ⟨e3, e4⟩ := hb3
      subst e3 e4
      have s4 : Sx X.K Rt σ2 H A H3 env2 A3 (D :: B) := by
        have := sxT.next s3
        rw [List.append_nil] at this
        exact this
      have ow3 : Own X.K H3 (Av (A3 ++ (D :: B)) Rt) (.lst acc) (.ref D) (D :: B) := by
        have := sxT.own s3 owT
        rw [List.append_nil] at this
        exact this
      have p3 : P H3 (Av (A3 ++ (D :: B)) Rt) := by
        have := sxT.nextP jt s3 pT
        rw [List.append_nil] at this
        exact this
      have go3 : Go A1 H1 (A3 ++ (D :: B)) H3 := by
        have := goT.trans (show Go A2 Hy A3 H3 from s3.go.sub fun b hb => List.mem_append_left _ hb)
        exact this
      cases b' with
      | false =>
        have eL2 : (if hidOk env2 own = true then lcL tgi own (evTs g.G g.C cs) (evE g.G g.C e) (ts.drop (i + 1)) acc (wipeE env2 own) else .no) = .ok wsF envF := eL1
        by_cases c : hidOk env2 own = true
        · rw [if_pos c] at eL2
          have b2 := hidOk_of c
          have rw2 := RE.wipe own b2 s4.re
          rw [weq] at rw2
          exact ⟨wipeE env2 own, A3, acc, B, eL2, ⟨s4.go, s4.nd, s4.rt, s4.th, s4.bth, rw2⟩, ow3, p3, go3, fun j hj => wipeE_none own j hj (b2 j hj).lt⟩
        · rw [if_neg c] at eL2; cases eL2
      | true =>
        obtain ⟨w, env3, ew, eL2⟩ := bind_ok (show ((evE g.G g.C e env2).bind fun w env3 => if (decide (acc.length < 16777216) && hidOk env3 own) = true then lcL tgi own (evTs g.G g.C cs) (evE g.G g.C e) (ts.drop (i + 1)) (acc ++ [w]) (wipeE env3 own) else .no) = .ok wsF envF from eL1)
        refine ⟨RtB (D :: B) Rt, env2, A3, s4.rl, ?_⟩
        show Post X.K g.mute (PO1 X.K) (RtB (D :: B) Rt) σ2 H3 A3 (evE g.G g.C e env2) _
        rw [ew]
        intro yv H4 A4 B4 s5 o5
        have s6 : Sx X.K Rt σ2 H A H4 env3 A4 (D :: (B ++ B4)) := s4.next s5
        have ow4 : Own X.K H4 (Av (A4 ++ (D :: (B ++ B4))) Rt) (.lst acc) (.ref D) (D :: B) := s4.own s5 ow3
        have o6 : Own X.K H4 (Av (A4 ++ (D :: (B ++ B4))) Rt) w yv B4 := Sx.own2 (B1 := D :: B) o5
        have p4 : P H4 (Av (A4 ++ (D :: (B ++ B4))) Rt) := s4.nextP jt s5 p3
        have go4 : Go A1 H1 (A4 ++ (D :: (B ++ B4))) H4 := (go3.trans s5.go).sub fun b hb => by
          rcases List.mem_append.mp hb with z | z
          · exact List.mem_append_left _ (List.mem_append_left _ z)
          · rcases List.mem_cons.mp z with rfl | z
            · exact List.mem_append_right _ List.mem_cons_self
            · rcases List.mem_append.mp z with z | z
              · exact List.mem_append_right _ (List.mem_cons_of_mem _ z)
              · exact List.mem_append_left _ (List.mem_append_right _ z)
        by_cases c : (decide (acc.length < 16777216) && hidOk env3 own) = true
        · rw [if_pos c] at eL2
          rw [Bool.and_eq_true] at c
          have nD : D ∉ B ++ B4 := (List.nodup_cons.mp (List.nodup_append.mp s6.nd).2.1).1
          have aD : Av (A4 ++ (D :: (B ++ B4))) Rt D := .inl (List.mem_append_right _ List.mem_cons_self)
          obtain ⟨xs, hxs, hxl, owN⟩ := Own.push ow4 o6 nD aD
          have lD : ∀ xs', ¬ Rd H4 D (.tup xs') := fun xs' z => by rcases z with z | ⟨o, z⟩ <;> (rw [hxs] at z; cases z)
          have s7 := s6.wr (o := .lst (xs ++ [yv])) List.mem_cons_self lD
          have b2 := hidOk_of c.2
          have rw2 := RE.wipe own b2 s7.re
          rw [weq] at rw2
          refine ⟨xs, hxs, by rw [sizeLine_eq, hxl]; exact of_decide_eq_true c.1, wipeE env3 own, A4, acc ++ [w], B ++ B4, eL2, ⟨s7.go, s7.nd, s7.rt, s7.th, s7.bth, rw2⟩, owN, ?_, ?_, fun j hj => wipeE_none own j hj (b2 j hj).lt⟩
          · refine jt.mono _ _ _ _ p4 (fun b o q n => ?_) (fun b xs' q => ?_) (fun b z => .inl z)
            · rw [upd_ne (fun z => n (by rw [z]; exact aD))]; exact q
            · have ne : b ≠ D := fun z => by subst z; exact lD xs' q
              exact Rd.mono q fun u q => by rw [upd_ne ne]; exact q
          · refine ⟨fun b o q n => ?_, fun b xs' q => ?_, go4.new⟩
            · have q4 := go4.keep b o q n
              have ne : b ≠ D := fun z => by
                subst z
                rw [hD] at q; cases q
              rw [upd_ne ne]; exact q4
            · have q4 := go4.tups b xs' q
              have ne : b ≠ D := fun z => by subst z; exact lD xs' q4
              exact Rd.mono q4 fun u q => by rw [upd_ne ne]; exact q
        · rw [if_neg c] at eL2; cases eL2
    · -- the end
      have ei : i = ts.length := by omega
      subst ei
      rw [List.drop_length] at eL
      cases (show R.ok acc envi = R.ok wsF envF from eL)
      refine .inl ⟨jt.stop Hc _ _ pH (Nat.le_refl _), ?_⟩
      have rb := (RE.back own (fun j hj => .inl (nones j hj)) (olds Hc (Ai ++ (D :: B)) go) sx.re).1
      rw [backS_wipe] at rb
      exact p2 (.ref D) Hc Ai (D :: B) ⟨sx.go, sx.nd, sx.rt, sx.th, sx.bth, rb⟩ ow
theorem snd_lc {elt tg iter : Expr} {ifs : List Expr} {scope : Scope} {own' : List (Str × Nat)} {own : List Nat} {pos : Pos} {tgi : Tg} {it : Ev.It} {cs : Tts} {e : E} (eo : own'.map (·.2) = own) (hc : X.calm = true) (hN : X.N.Nodup)
    (hi : PI X tg iter (tI X.K g it)) (ok : BlkOk X.N X.env.scope scope own') (hlen : ∀ i ∈ tgs tgi, i < X.N.length)
    (hg : ∀ (s : Shared) (H : Hp) (C : Addr) (cl : List (Str × Addr)) (fp : List Addr), PG (X.blk s H scope (compEnvC scope cl C X.env) fp) tg (gT X.K tgi))
    (ht : ∀ (s : Shared) (H : Hp) (C : Addr) (cl : List (Str × Addr)) (fp : List Addr), PTs (X.blk s H scope (compEnvC scope cl C X.env) fp) ifs (tTs X.K g.mute cs))
    (he : ∀ (s : Shared) (H : Hp) (C : Addr) (cl : List (Str × Addr)) (fp : List Addr), PE (X.blk s H scope (compEnvC scope cl C X.env) fp) elt (tE X.K g.mute e)) (hs : ∀ x, foldedSetIterable iter X.env x = pure x) :
    PE X (.ListComp elt [⟨tg, iter, ifs, 0⟩] scope pos) (tE X.K g (.lc own tgi it cs e)) := by
  subst eo
  exact ⟨fun pins s σ H Q I h => (pe_lc hc hN hi ok hg ht he hs).run pins s σ H Q I (lc_ev hlen I.len h)⟩
end
end Ev
/-! Ev9: statements. -/
namespace Ev
open PySem L2
/-- the kept slots -/
def Kp (ks : List Nat) (σ σ' : St) : Prop := σ'.length = σ.length ∧ ∀ j ∈ ks, σ'[j]? = σ[j]?
theorem Kp.refl {ks : List Nat} {σ : St} : Kp ks σ σ := ⟨rfl, fun _ _ => rfl⟩
theorem Kp.trans {ks : List Nat} {σ σ1 σ2 : St} (h : Kp ks σ σ1) (h2 : Kp ks σ1 σ2) : Kp ks σ σ2 := ⟨h2.1.trans h.1, fun j hj => (h2.2 j hj).trans (h.2 j hj)⟩
theorem Kp.set {ks : List Nat} {σ : St} {i : Nat} {o : Option V} (h : ks.contains i = false) : Kp ks σ (σ.set i o) := ⟨List.length_set, fun j hj => List.getElem?_set_ne fun z : i = j => by
  subst z
  rw [List.contains_iff_mem.mpr hj] at h
  cases h⟩
section
variable (K : PySem.W.Frag) (g : Cfg) (ks : List Nat)
def PostS (Rt : Addr → Prop) (σ : St) (H : Hp) (A : List Addr) (r : R F) (D : Ends) : Prop := match r with
  | .ok .nx env => ∀ σ' H' A', Kp ks σ σ' → Sx K Rt σ' H A H' env A' [] → D.nx σ' H'
  | .ok .bk env => ∀ σ' H' A', Kp ks σ σ' → Sx K Rt σ' H A H' env A' [] → D.bk σ' H'
  | .ok .ct env => ∀ σ' H' A', Kp ks σ σ' → Sx K Rt σ' H A H' env A' [] → D.ct σ' H'
  | .ok (.rt w) env => ∀ v σ' H' A' B, Kp ks σ σ' → Sx K Rt σ' H A H' env A' B → Own K H' (Av (A' ++ B) Rt) w v B → D.rt v H'
  | .exc c t env => ∀ cls d σ' H' A', Kp ks σ σ' → Sx K Rt σ' H A H' env A' [] → g.xr c t H' (Av (A' ++ []) Rt) cls d → g.W cls d σ' H'
  | .no => False
def tS (s : S) : TS := fun D σ H => ∃ Rt env A, Rl K Rt H σ env A ∧ PostS K g ks Rt σ H A (evS g.G g.C s env) D
def tSs (s : Ss) : TS := fun D σ H => ∃ Rt env A, Rl K Rt H σ env A ∧ PostS K g ks Rt σ H A (evSs g.G g.C s env) D
end
theorem PS.imp {X : Cx} {s : Stmt} {t t' : TS} (h : PS X s t) (i : ∀ D σ H, σ.length = X.N.length → t' D σ H → t D σ H) : PS X s t' := ⟨fun pins s σ H Q I q => h.run pins s σ H Q I (i Q σ H I.len q)⟩
theorem PSs.imp {X : Cx} {s : List Stmt} {t t' : TS} (h : PSs X s t) (i : ∀ D σ H, σ.length = X.N.length → t' D σ H → t D σ H) : PSs X s t' := ⟨fun pins s σ H Q I q => h.run pins s σ H Q I (i Q σ H I.len q)⟩
section
variable {K : PySem.W.Frag} {g : Cfg} {ks : List Nat} {α β : Type} {Pa : α → β → Hp → (Addr → Prop) → List Addr → Prop}
variable {Rt : Addr → Prop} {σ σ1 : St} {H H1 H2 : Hp} {A A1 A2 B B1 B2 D : List Addr} {env env1 env2 : Env} {r : R α} {rf : R F} {f : α → Env → R F} {De : Ends} {Q1 : β → Hp → Prop} {w : W} {v : V} {i : Nat}
/-- an expression, then the rest of a statement -/
theorem PostS.seq (h : PostS K g ks Rt σ H A (r.bind f) De) (k : ∀ a e1 b H1 A1 B1, Sx K Rt σ H A H1 e1 A1 B1 → Pa a b H1 (Av (A1 ++ B1) Rt) B1 → PostS K g ks Rt σ H A (f a e1) De → Q1 b H1) : Post K g Pa Rt σ H A r Q1 := by
  cases r with
  | ok a e1 => exact fun b H' A' B' sx p => k a e1 b H' A' B' sx p h
  | exc c t e1 => exact fun cls d H' A' sx p => h cls d σ H' A' Kp.refl sx p
  | no => exact h
theorem PostS.seq2 (s1 : Sx K Rt σ H A H1 env1 A1 B1) (h : PostS K g ks Rt σ H A (r.bind f) De)
    (k : ∀ a e2 b H2 A2 B2, Sx K (RtB B1 Rt) σ H1 A1 H2 e2 A2 B2 → Pa a b H2 (Av (A2 ++ B2) (RtB B1 Rt)) B2 → PostS K g ks Rt σ H A (f a e2) De → Q1 b H2) : Post K g Pa (RtB B1 Rt) σ H1 A1 r Q1 := by
  cases r with
  | ok a e1 => exact fun b H' A' B' sx p => k a e1 b H' A' B' sx p h
  | exc c t e1 =>
    refine fun cls d H' A' sx p => h cls d σ H' A' Kp.refl (s1.next sx).drop0 (g.xm c t H' _ _ cls d (fun b z => ?_) p)
    rcases z with z | z
    · exact .inl z
    · exact .inr (.inr z)
  | no => exact h
theorem PostS.shift (kp : Kp ks σ σ1) (s1 : Sx K Rt σ1 H A H1 env1 A1 []) (h : PostS K g ks Rt σ H A rf De) : PostS K g ks Rt σ1 H1 A1 rf De := by
  cases rf with
  | ok a e =>
    cases a with
    | nx => exact fun σ' H' A' k sx => h σ' H' A' (kp.trans k) (s1.next0 sx)
    | bk => exact fun σ' H' A' k sx => h σ' H' A' (kp.trans k) (s1.next0 sx)
    | ct => exact fun σ' H' A' k sx => h σ' H' A' (kp.trans k) (s1.next0 sx)
    | rt w => exact fun v σ' H' A' B' k sx ow => h v σ' H' A' B' (kp.trans k) (s1.next0 sx) ow
  | exc c t e => exact fun cls d σ' H' A' k sx p => h cls d σ' H' A' (kp.trans k) (s1.next0 sx) p
  | no => exact h
theorem perm_nodup {a b : List Addr} (h : a.Perm b) (n : a.Nodup) : b.Nodup := h.nodup_iff.mp n
theorem put_nodup {C1 C2 Bo B D : List Addr} (h : ((C1 ++ (Bo ++ C2)) ++ (B ++ D)).Nodup) : ((C1 ++ (B ++ C2)) ++ D).Nodup := by
  have p : ((C1 ++ (Bo ++ C2)) ++ (B ++ D)).Perm (Bo ++ ((C1 ++ (B ++ C2)) ++ D)) := by
    rw [List.perm_iff_count]
    intro a
    simp only [List.count_append]
    omega
  exact (List.nodup_append.mp (perm_nodup p h)).2.1
/-- a slot takes a value -/
theorem Sx.put (s : Sx K Rt σ H A H1 env A1 (B ++ D)) (ow : Own K H1 (Av (A1 ++ (B ++ D)) Rt) w v B) (hi : i < env.length) :
    ∃ A', Sx K Rt (σ.set i (some v)) H A H1 (env.set i (some w)) A' D ∧ ∀ b, Av (A' ++ D) Rt b → Av (A1 ++ (B ++ D)) Rt b := by
  obtain ⟨C1, Bo, C2, eA, hn, hw, hu⟩ := RE.slot env σ A1 i s.re hi
  subst eA
  have sub : ∀ b ∈ (C1 ++ (B ++ C2)) ++ D, b ∈ (C1 ++ (Bo ++ C2)) ++ (B ++ D) := fun b z => by
    simp only [List.mem_append] at z ⊢
    rcases z with (z | z | z) | z
    · exact .inl (.inl z)
    · exact .inr (.inl z)
    · exact .inl (.inr (.inr z))
    · exact .inr (.inr z)
  have suba : ∀ b, Av ((C1 ++ (B ++ C2)) ++ D) Rt b → Av ((C1 ++ (Bo ++ C2)) ++ (B ++ D)) Rt b := fun b z => z.imp (sub b) id
  refine ⟨C1 ++ (B ++ C2), ⟨s.go.sub sub, put_nodup s.nd, fun b hb => s.rt b (sub b hb), s.th, fun b hb => s.bth b (List.mem_append_right _ hb), ?_⟩, suba⟩
  exact (hu H1 _ (fun _ _ q _ => q) (fun _ _ q => q) fun b z => .inl (suba b z)).2 w v B (Own.mono w v B (fun _ _ q _ => q) (fun _ _ q => q) (fun b z => .inl (suba b z)) ow)
theorem Sx.put0 (s : Sx K Rt σ H A H1 env A1 B) (ow : Own K H1 (Av (A1 ++ B) Rt) w v B) (hi : i < env.length) :
    ∃ A', Sx K Rt (σ.set i (some v)) H A H1 (env.set i (some w)) A' [] := by
  have e : B ++ [] = B := List.append_nil _
  rw [← e] at s
  have ow' : Own K H1 (Av (A1 ++ (B ++ [])) Rt) w v B := by rw [e]; exact ow
  obtain ⟨A', h, _⟩ := s.put ow' hi
  exact ⟨A', h⟩
/-- several slots take values -/
theorem Sx.puts : ∀ (is : List Nat) (ws : List W) (vs : List V) (σ : St) (env : Env) (A1 B : List Addr), is.length = ws.length → (∀ i ∈ is, i < env.length) → Sx K Rt σ H A H1 env A1 B → OwnL K H1 (Av (A1 ++ B) Rt) ws vs B →
    ∃ A', Sx K Rt ((is.zip vs).foldl (fun e p => e.set p.1 (some p.2)) σ) H A H1 ((is.zip ws).foldl (fun e p => e.set p.1 (some p.2)) env) A' []
  | [], [], vs, σ, env, A1, B, _, _, s, ow => by
    obtain ⟨rfl, rfl⟩ := ow
    exact ⟨A1, s⟩
  | [], w :: ws, vs, σ, env, A1, B, hl, _, s, ow => by cases hl
  | i :: is, [], vs, σ, env, A1, B, hl, _, s, ow => by cases hl
  | i :: is, w :: ws, vs, σ, env, A1, B, hl, hi, s, ow => by
    obtain ⟨v, r, B1, B2, rfl, rfl, o1, o2⟩ := ow
    obtain ⟨A', s', suba⟩ := s.put o1 (hi i List.mem_cons_self)
    exact Sx.puts is ws r _ _ A' B2 (by simpa using hl) (fun j hj => by rw [List.length_set]; exact hi j (List.mem_cons_of_mem _ hj)) s' (OwnL.mono ws r B2 (fun _ _ q _ => q) (fun _ _ q => q) (fun b z => .inl (suba b z)) o2)
theorem Kp.sets : ∀ (is : List Nat) (vs : List V) (σ : St), (∀ i ∈ is, ks.contains i = false) → Kp ks σ ((is.zip vs).foldl (fun e p => e.set p.1 (some p.2)) σ)
  | [], _, σ, _ => Kp.refl
  | _ :: _, [], σ, _ => Kp.refl
  | i :: is, v :: vs, σ, h => (Kp.set (h i List.mem_cons_self)).trans (Kp.sets is vs _ fun j hj => h j (List.mem_cons_of_mem _ hj))
end
section
variable {X : Cx} {g : Cfg} {ks : List Nat} {pos pos' : Pos} {a b c : Expr} {ia ib ic : E} {ja jb : Tt} {i : Nat} {x : Str} {st : Stmt} {rest : List Stmt} {s : S} {ss s1 s2 : Ss}
theorem lt_N {l : List Str} (h : l[i]? = some x) : i < l.length := (List.getElem?_eq_some_iff.mp h).1
/-! ### blocks -/
theorem sns_nil : PSs X [] (tSs X.K g ks .nil) := PSs.imp pss_nil fun D σ H hl ⟨Rt, env, A, rl, p⟩ => p σ H A Kp.refl rl.sx
theorem sns_cons (h1 : PS X st (tS X.K g ks s)) (h2 : PSs X rest (tSs X.K g ks ss)) : PSs X (st :: rest) (tSs X.K g ks (.cons s ss)) :=
  PSs.imp (pss_cons h1 h2) fun D σ H hl ⟨Rt, env, A, rl, p⟩ => by
    refine ⟨Rt, env, A, rl, ?_⟩
    have p' : PostS X.K g ks Rt σ H A ((evS g.G g.C s env).bind fun f env1 => (match f with | .nx => evSs g.G g.C ss env1 | f => .ok f env1)) D := p
    cases e : evS g.G g.C s env with
    | ok f env1 =>
      rw [e] at p'
      cases f with
      | nx => exact fun σ' H' A' kp sx => ⟨Rt, env1, A', sx.rl0, PostS.shift kp sx p'⟩
      | rt w => exact p'
      | bk => exact p'
      | ct => exact p'
    | exc c t env1 => rw [e] at p'; exact p'
    | no => rw [e] at p'; exact p'
theorem sns_never : PSs X rest (tSs X.K g ks (.cons .never ss)) := ⟨fun _ _ _ _ _ _ ⟨Rt, env, A, rl, p⟩ => by
  have p' : PostS X.K g ks Rt _ _ A R.no _ := p
  exact p'.elim⟩
theorem sns_doc {y : Str} {j : Nat} {p1 p2 : Pos} (h2 : PSs X rest (tSs X.K g ks ss)) : PSs X (.Expr (.Constant (.str y) j p1) p2 :: rest) (tSs X.K g ks ss) := PSs.imp (pss_cons ps_doc h2) fun D σ H hl h => h
/-! ### statements -/
theorem sns_asg (hN : X.N.Nodup) (hi : X.N[i]? = some x) (hx : Loc X.env.scope x) (he : PE X a (tE X.K g ia)) (hk : ks.contains i = false) (hs : swapsWith a (some (.Name x pos')) pos.line X.env = pure false) (hf : X.fn x = true ∨ X.env.scope.names.lookup x = some .local) :
    PS X (.Assign [.Name x pos'] a pos) (tS X.K g ks (.asg i ia)) :=
  PS.imp (ps_set hN hi hx he hs hf) fun D σ H hl ⟨Rt, env, A, rl, p⟩ => by
    refine ⟨Rt, env, A, rl, PostS.seq p fun w e1 v H1 A1 B1 s1 o1 p1 => ?_⟩
    have len : i < e1.length := by rw [RE.len _ _ _ s1.re, hl]; exact lt_N hi
    obtain ⟨A', s2⟩ := s1.put0 o1 len
    exact p1 _ H1 A' (Kp.set hk) s2
/-- name = a list comprehension on one line -/
theorem sns_asgLc {elt tg iter : Expr} {ifs : List Expr} {scope : Scope} {own' : List (Str × Nat)} {own : List Nat} {posc : Pos} {tgi : Tg} {it : Ev.It} {cs : Tts} {e : E} (eo : own'.map (·.2) = own) (hc : X.calm = true) (hN : X.N.Nodup)
    (hi : X.N[i]? = some x) (hyl : X.env.scope.names.lookup x = some .local) (hk : ks.contains i = false)
    (hsw : swapsWith (.ListComp elt [⟨tg, iter, ifs, 0⟩] scope posc) (some (.Name x pos')) pos.line X.env = pure true)
    (hit : PI X tg iter (tI X.K g it)) (ok : BlkOk X.N X.env.scope scope own') (hlen : ∀ i ∈ tgs tgi, i < X.N.length)
    (hg : ∀ (s : Shared) (H : Hp) (C : Addr) (cl : List (Str × Addr)) (fp : List Addr), PG (X.blk s H scope (compEnvC scope cl C X.env) fp) tg (gT X.K tgi))
    (ht : ∀ (s : Shared) (H : Hp) (C : Addr) (cl : List (Str × Addr)) (fp : List Addr), PTs (X.blk s H scope (compEnvC scope cl C X.env) fp) ifs (tTs X.K g.mute cs))
    (he : ∀ (s : Shared) (H : Hp) (C : Addr) (cl : List (Str × Addr)) (fp : List Addr), PE (X.blk s H scope (compEnvC scope cl C X.env) fp) elt (tE X.K g.mute e)) (hs : ∀ x, foldedSetIterable iter X.env x = pure x) :
    PS X (.Assign [.Name x pos'] (.ListComp elt [⟨tg, iter, ifs, 0⟩] scope posc) pos) (tS X.K g ks (.asg i (.lc own tgi it cs e))) := by
  subst eo
  refine PS.imp (ps_setLc hc hN hi hyl hsw hit ok hg ht he hs) fun D σ H hl ⟨Rt, env, A, rl, p⟩ => ?_
  refine lc_ev (X := X) (Q := fun x H1 => gName i x σ H1 D.nx) hlen hl ⟨Rt, env, A, rl, PostS.seq p fun w e1 v H1 A1 B1 s1 o1 p1 => ?_⟩
  have len : i < e1.length := by rw [RE.len _ _ _ s1.re, hl]; exact lt_N hi
  obtain ⟨A', s2⟩ := s1.put0 o1 len
  exact p1 _ H1 A' (Kp.set hk) s2
theorem sns_par2 {j : Nat} {y : Str} {px py pt : Pos} {kt k2 pt2} {es : Es} (hc : X.calm = true) (hN : X.N.Nodup) (hi : X.N[i]? = some x) (hj : X.N[j]? = some y) (hij : i ≠ j)
    (hx : X.env.scope.names.lookup x = some .local) (hy : X.env.scope.names.lookup y = some .local) (hki : ks.contains i = false) (hkj : ks.contains j = false) (ha : PA X [a, b] (tEs X.K g es))
    (hw : swappedStores [.Tuple [.Name x px, .Name y py] kt pt] (.Tuple [a, b] k2 pt2) X.env = pure (some [x, y]))
    (hs : swapsWithSole [.Tuple [.Name x px, .Name y py] kt pt] (.Tuple [a, b] k2 pt2) pos.line X.env = pure false) :
    PS X (.Assign [.Tuple [.Name x px, .Name y py] kt pt] (.Tuple [a, b] k2 pt2) pos) (tS X.K g ks (.par [i, j] es)) :=
  PS.imp (ps_par hc hN hi hj hij hx hy ha hw hs) fun D σ H hl ⟨Rt, env, A, rl, p⟩ => by
    refine ⟨Rt, env, A, rl, PostS.seq p fun ws e1 vs H1 A1 B1 s1 o1 p1 => ?_⟩
    have p2 : PostS X.K g ks Rt σ H A (if [i, j].length = ws.length then .ok .nx (([i, j].zip ws).foldl (fun e p => e.set p.1 (some p.2)) e1) else .no) D := p1
    have el : e1.length = X.N.length := by rw [RE.len _ _ _ s1.re, hl]
    by_cases c : [i, j].length = ws.length
    · rw [if_pos c] at p2
      obtain ⟨A', s2⟩ := Sx.puts [i, j] ws vs σ e1 A1 B1 c (fun k hk => by
        rw [el]
        rcases List.mem_cons.mp hk with rfl | hk
        · exact lt_N hi
        · rcases List.mem_cons.mp hk with rfl | hk
          · exact lt_N hj
          · cases hk) s1 o1
      have lv := OwnL.len ws vs B1 o1
      match vs, (show 2 = vs.length from c.trans lv) with
      | [u, v], _ =>
        exact ⟨u, v, rfl, p2 _ H1 A' (Kp.sets [i, j] [u, v] σ fun k hk => by
          rcases List.mem_cons.mp hk with rfl | hk
          · exact hki
          · rcases List.mem_cons.mp hk with rfl | hk
            · exact hkj
            · cases hk) s2⟩
    · rw [if_neg c] at p2; exact p2.elim
theorem sns_par3 {j l : Nat} {y z : Str} {px py pz pt : Pos} {kt k2 pt2} {es : Es} (hc : X.calm = true) (hN : X.N.Nodup) (hi : X.N[i]? = some x) (hj : X.N[j]? = some y) (hl' : X.N[l]? = some z) (hij : i ≠ j) (hil : i ≠ l) (hjl : j ≠ l)
    (hx : X.env.scope.names.lookup x = some .local) (hy : X.env.scope.names.lookup y = some .local) (hz : X.env.scope.names.lookup z = some .local) (hki : ks.contains i = false) (hkj : ks.contains j = false) (hkl : ks.contains l = false) (ha : PA X [a, b, c] (tEs X.K g es))
    (hw : swappedStores [.Tuple [.Name x px, .Name y py, .Name z pz] kt pt] (.Tuple [a, b, c] k2 pt2) X.env = pure (some [x, y, z]))
    (hs : swapsWithSole [.Tuple [.Name x px, .Name y py, .Name z pz] kt pt] (.Tuple [a, b, c] k2 pt2) pos.line X.env = pure false) :
    PS X (.Assign [.Tuple [.Name x px, .Name y py, .Name z pz] kt pt] (.Tuple [a, b, c] k2 pt2) pos) (tS X.K g ks (.par [i, j, l] es)) :=
  PS.imp (ps_par3 hc hN hi hj hl' hij hil hjl hx hy hz ha hw hs) fun D σ H hl ⟨Rt, env, A, rl, p⟩ => by
    refine ⟨Rt, env, A, rl, PostS.seq p fun ws e1 vs H1 A1 B1 s1 o1 p1 => ?_⟩
    have p2 : PostS X.K g ks Rt σ H A (if [i, j, l].length = ws.length then .ok .nx (([i, j, l].zip ws).foldl (fun e p => e.set p.1 (some p.2)) e1) else .no) D := p1
    have el : e1.length = X.N.length := by rw [RE.len _ _ _ s1.re, hl]
    by_cases c : [i, j, l].length = ws.length
    · rw [if_pos c] at p2
      obtain ⟨A', s2⟩ := Sx.puts [i, j, l] ws vs σ e1 A1 B1 c (fun k hk => by
        rw [el]
        rcases List.mem_cons.mp hk with rfl | hk
        · exact lt_N hi
        · rcases List.mem_cons.mp hk with rfl | hk
          · exact lt_N hj
          · rcases List.mem_cons.mp hk with rfl | hk
            · exact lt_N hl'
            · cases hk) s1 o1
      have lv := OwnL.len ws vs B1 o1
      match vs, (show 3 = vs.length from c.trans lv) with
      | [u, v, w], _ =>
        exact ⟨u, v, w, rfl, p2 _ H1 A' (Kp.sets [i, j, l] [u, v, w] σ fun k hk => by
          rcases List.mem_cons.mp hk with rfl | hk
          · exact hki
          · rcases List.mem_cons.mp hk with rfl | hk
            · exact hkj
            · rcases List.mem_cons.mp hk with rfl | hk
              · exact hkl
              · cases hk) s2⟩
    · rw [if_neg c] at p2; exact p2.elim
/-- (a, b) = a tuple -/
theorem sns_asgT {tg : Expr} {is : List Nat} (he : PE X a (tE X.K g ia)) (hg : PG X tg (gT X.K (.tup is))) (hlen : ∀ i ∈ is, i < X.N.length) (hk : ∀ i ∈ ks, is.contains i = false) (hs : swapsWithSole [tg] a pos.line X.env = pure false) (hw : swappedStores [tg] a X.env = pure none)
    (h1 : (assignEach [tg] X.env).map (·.2) = [assign tg X.env]) : PS X (.Assign [tg] a pos) (tS X.K g ks (.asgT is ia)) :=
  PS.imp (ps_asg he hg hs hw h1) fun D σ H hl ⟨Rt, env, A, rl, p⟩ => by
    refine ⟨Rt, env, A, rl, PostS.seq p fun w e1 v H1 A1 B1 s1 o1 p1 => ?_⟩
    have p2 : PostS X.K g ks Rt σ H A (match tgE (.tup is) w.fz e1 with | some env2 => .ok .nx env2 | none => .no) D := p1
    cases e : tgE (.tup is) w.fz e1 with
    | none => rw [e] at p2; exact p2.elim
    | some env2 =>
      rw [e] at p2
      have s2 := s1.drop0
      have fz : Fz X.K H1 (Av A1 Rt) w.fz v := by have := s1.fz0 o1; rw [List.append_nil] at this; exact this
      have hi : ∀ i ∈ tgs (.tup is), i < e1.length := fun i hi => by rw [RE.len _ _ _ s1.re, hl]; exact hlen i hi
      refine tg_ok (.tup is) hi s2.rl0 fz e fun σ' A' sub rl' kσ => ?_
      refine p2 σ' H1 A' ⟨by rw [← RE.len _ _ _ rl'.re, tgE_len e, RE.len _ _ _ s1.re], fun j hj => kσ j fun z => ?_⟩ (s2.retg (by rw [show RtB [] Rt = Rt from funext fun b => propext (rtB_nil b)]; exact rl') sub)
      have := hk j hj
      rw [List.contains_iff_mem.mpr (show j ∈ is from z)] at this
      cases this
theorem sns_ret (he : PE X a (tE X.K g ia)) : PS X (.Return (some a) pos) (tS X.K g ks (.ret ia)) :=
  PS.imp (ps_ret he) fun D σ H hl ⟨Rt, env, A, rl, p⟩ => ⟨Rt, env, A, rl, PostS.seq p fun w e1 v H1 A1 B1 s1 o1 p1 => p1 v σ H1 A1 B1 Kp.refl s1 o1⟩
theorem sns_retn : PS X (.Return none pos) (tS X.K g ks .retn) :=
  PS.imp ps_retN fun D σ H hl ⟨Rt, env, A, rl, p⟩ => p .non σ H A [] Kp.refl rl.sx ⟨rfl, rfl⟩
theorem sns_pass : PS X (.Pass pos) (tS X.K g ks .pass) :=
  PS.imp ps_pass fun D σ H hl ⟨Rt, env, A, rl, p⟩ => p σ H A Kp.refl rl.sx
theorem sns_expr (he : PE X a (tE X.K g ia)) (hs : swapsWith a none pos.line X.env = pure false) : PS X (.Expr a pos) (tS X.K g ks (.expr ia)) :=
  PS.imp (ps_expr he hs) fun D σ H hl ⟨Rt, env, A, rl, p⟩ => ⟨Rt, env, A, rl, PostS.seq p fun w e1 v H1 A1 B1 s1 o1 p1 => p1 σ H1 A1 Kp.refl s1.drop0⟩
theorem sns_if {sa sb : List Stmt} (hc : PT X c (tT X.K g ja)) (ha : PSs X sa (tSs X.K g ks s1)) (hb : PSs X sb (tSs X.K g ks s2)) : PS X (.If c sa sb pos) (tS X.K g ks (.ife ja s1 s2)) :=
  PS.imp (ps_if hc ha hb) fun D σ H hl ⟨Rt, env, A, rl, p⟩ => by
    refine ⟨Rt, env, A, rl, PostS.seq p fun k e1 v H1 A1 B1 sx o1 p1 => ?_⟩
    obtain ⟨rfl, rfl⟩ := o1
    cases v with
    | true => rw [if_pos rfl]; exact ⟨Rt, e1, A1, sx.rl0, PostS.shift Kp.refl sx p1⟩
    | false => rw [if_neg (by decide)]; exact ⟨Rt, e1, A1, sx.rl0, PostS.shift Kp.refl sx p1⟩
theorem sns_retv (hN : X.N[i]? = some x) (hv : Vis X.env.scope x) (hd : (x == ("__debug__" : Str)) = false) (hcd : (x == ("__classdict__" : Str)) = false) : PS X (.Return (some (.Name x pos')) pos) (tS X.K g ks (.retv i)) :=
  PS.imp (ps_ret (pe_var hN hv hd hcd)) fun D σ H hl ⟨Rt, env, A, rl, p⟩ => by
    have p' : PostS X.K g ks Rt σ H A (match env[i]? with | some (some w) => .ok (.rt w) (env.set i none) | _ => .no) D := p
    cases e : env[i]? with
    | none => rw [e] at p'; exact p'.elim
    | some o =>
      cases o with
      | none => rw [e] at p'; exact p'.elim
      | some w =>
        rw [e] at p'
        have hi : i < env.length := (List.getElem?_eq_some_iff.mp e).1
        obtain ⟨A1, B, A2, eA, _, hw, hu⟩ := RE.slot env σ A i rl.re hi
        obtain ⟨v, ev, ow⟩ := hw w e
        subst eA
        have eqm : ∀ b, b ∈ (A1 ++ A2) ++ B ↔ b ∈ A1 ++ (B ++ A2) := fun b => by
          simp only [List.mem_append]
          constructor
          · rintro ((z | z) | z)
            · exact .inl z
            · exact .inr (.inr z)
            · exact .inr (.inl z)
          · rintro (z | z | z)
            · exact .inl (.inl z)
            · exact .inr z
            · exact .inl (.inr z)
        have suba : ∀ b, Av ((A1 ++ A2) ++ B) Rt b → Av (A1 ++ (B ++ A2)) Rt b := fun b z => z.imp (eqm b).mp id
        have re := (hu H (Av ((A1 ++ A2) ++ B) Rt) (fun _ _ q _ => q) (fun _ _ q => q) (fun b z => .inl (suba b z))).1 (some v)
        rw [set_same ev] at re
        have nd : ((A1 ++ A2) ++ B).Nodup := perm_nodup (by
          rw [List.perm_iff_count]
          intro a
          simp only [List.count_append]
          omega) rl.nd
        refine ⟨v, ev, p' v σ H (A1 ++ A2) B Kp.refl ⟨Go.refl.sub fun b hb => (eqm b).mp hb, nd, fun b hb => rl.rt b ((eqm b).mp hb), rl.th, fun b hb => ?_, re⟩ (Own.mono w v B (fun _ _ q _ => q) (fun _ _ q => q) (fun b z => .inl (suba b z)) ow)⟩
        obtain ⟨o, q, _⟩ := Own.there w v B ow b hb
        rw [q]; exact fun z => by cases z
end
end Ev
/-! Ev10: append, item stores, for. -/
namespace Ev
open PySem L2
section
variable {K : PySem.W.Frag} {Rt : Addr → Prop} {H H1 H2 : Hp} {σ σ' : St} {env env1 env2 : Env} {A A1 A2 B B' B1 B2 : List Addr} {w : W} {ws ws' : List W} {v y : V} {vs xs xs' : List V} {av : Addr → Prop} {i : Nat}
/-- an owned node, opened -/
def OwnN (K : PySem.W.Frag) (H : Hp) (av : Addr → Prop) : W → HO → List Addr → Prop
  | .lst ws, o, D => ∃ xs, o = .lst xs ∧ OwnL K H av ws xs D
  | .nd n ws, o, D => ∃ xs, (NdO K n xs o ∧ n.free = true) ∧ OwnL K H av ws xs D
  | .val _, _, _ => False
  | .set _, _, _ => False
def W.node : W → Bool
  | .lst _ => true
  | .nd _ _ => true
  | _ => false
theorem Own.node {w : W} {v : V} {C : List Addr} (h : Own K H av w v C) (n : w.node = true) : ∃ a o D, v = .ref a ∧ C = a :: D ∧ H a = some o ∧ OwnN K H av w o D := by
  cases w with
  | val t => cases n
  | set t => cases n
  | lst ws =>
    obtain ⟨a, xs, D, e1, e2, ha, hl⟩ := h
    exact ⟨a, _, D, e1, e2, ha, xs, rfl, hl⟩
  | nd m ws =>
    obtain ⟨a, xs, o, D, e1, e2, ha, no, hl⟩ := h
    exact ⟨a, o, D, e1, e2, ha, xs, no, hl⟩
theorem OwnN.own {w : W} {o : HO} {a : Addr} {D : List Addr} (h : OwnN K H av w o D) (ha : H a = some o) : Own K H av w (.ref a) (a :: D) := by
  cases w with
  | val t => exact h.elim
  | set t => exact h.elim
  | lst ws =>
    obtain ⟨xs, rfl, hl⟩ := h
    exact ⟨a, xs, D, rfl, rfl, ha, hl⟩
  | nd m ws =>
    obtain ⟨xs, no, hl⟩ := h
    exact ⟨a, xs, o, D, rfl, rfl, ha, no, hl⟩
theorem OwnN.notup {w : W} {o : HO} {D : List Addr} (h : OwnN K H av w o D) : (∀ ys, o ≠ .tup ys) ∧ ∀ u ys, o ≠ .frz u ys := by
  cases w with
  | val t => exact h.elim
  | set t => exact h.elim
  | lst ws =>
    obtain ⟨xs, rfl, hl⟩ := h
    exact ⟨fun ys z => (by cases z), fun u ys z => (by cases z)⟩
  | nd m ws =>
    obtain ⟨xs, no, hl⟩ := h
    exact ⟨no.1.notup, no.1.nofrz⟩
theorem OwnN.mono {w : W} {o : HO} {D : List Addr} {H' : Hp} {av' : Addr → Prop} (h : OwnN K H av w o D) (keep : ∀ b o, H b = some o → (b ∈ D ∨ ¬ av b) → H' b = some o) (tups : ∀ b xs, Rd H b (.tup xs) → Rd H' b (.tup xs)) (hav : ∀ b, av' b → av b ∨ H b = none) : OwnN K H' av' w o D := by
  cases w with
  | val t => exact h.elim
  | set t => exact h.elim
  | lst ws =>
    obtain ⟨xs, e, hl⟩ := h
    exact ⟨xs, e, OwnL.mono ws xs D keep tups hav hl⟩
  | nd m ws =>
    obtain ⟨xs, no, hl⟩ := h
    exact ⟨xs, no, OwnL.mono ws xs D keep tups hav hl⟩
/-- an owned node in a slot is rewritten; B: what the new items may own, B': what is handed out -/
theorem Sx.mutG (s : Sx K Rt σ H A H1 env A1 B) (hi : env[i]? = some (some w)) (hn : w.node = true) : ∃ a o D, σ[i]? = some (some (.ref a)) ∧ H1 a = some o ∧ OwnN K H1 (Av (A1 ++ B) Rt) w o D ∧
    ∀ w' o' D' B', OwnN K H1 (Av (A1 ++ B) Rt) w' o' D' → (∀ b, (D' ++ B').count b ≤ (D ++ B).count b) → ∃ A', Sx K Rt σ H A (upd H1 a o') (env.set i (some w')) A' B' ∧
      ∀ u y C, (∀ b ∈ C, b ∈ B') → Own K H1 (Av (A1 ++ B) Rt) u y C → Own K (upd H1 a o') (Av (A' ++ B') Rt) u y C := by
  obtain ⟨C1, Bo, C2, eA, _, hw, hu⟩ := RE.slot env σ A1 i s.re (List.getElem?_eq_some_iff.mp hi).1
  obtain ⟨v, ev, ow0⟩ := hw _ hi
  obtain ⟨a, o, D, e1, e2, ha, on⟩ := ow0.node hn
  subst e1 e2 eA
  refine ⟨a, o, D, ev, ha, on, fun w' o' D' B' ow cn => ?_⟩
  have cnt : ∀ b, ((C1 ++ ((a :: D') ++ C2)) ++ B').count b ≤ ((C1 ++ ((a :: D) ++ C2)) ++ B).count b := fun b => by
    have := cn b
    simp only [List.count_append, List.count_cons] at this ⊢
    omega
  have nd : ((C1 ++ ((a :: D') ++ C2)) ++ B').Nodup := List.nodup_iff_count.mpr fun b => Nat.le_trans (cnt b) (List.nodup_iff_count.mp s.nd b)
  have sub : ∀ b ∈ (C1 ++ ((a :: D') ++ C2)) ++ B', b ∈ (C1 ++ ((a :: D) ++ C2)) ++ B := fun b hb => List.count_pos_iff.mp (Nat.lt_of_lt_of_le (List.count_pos_iff.mpr hb) (cnt b))
  have suba : ∀ b, Av ((C1 ++ ((a :: D') ++ C2)) ++ B') Rt b → Av ((C1 ++ ((a :: D) ++ C2)) ++ B) Rt b := fun b z => z.imp (sub b) id
  have ain : a ∈ (C1 ++ ((a :: D) ++ C2)) ++ B := List.mem_append_left _ (List.mem_append_right _ (List.mem_append_left _ List.mem_cons_self))
  have ava : Av ((C1 ++ ((a :: D) ++ C2)) ++ B) Rt a := .inl ain
  have lD : ∀ xs', ¬ Rd H1 a (.tup xs') := fun xs' z => by
    rcases z with z | ⟨u, z⟩
    · rw [ha] at z; exact on.notup.1 _ (Option.some.inj z)
    · rw [ha] at z; exact on.notup.2 _ _ (Option.some.inj z)
  have tup' : ∀ b xs, Rd H1 b (.tup xs) → Rd (upd H1 a o') b (.tup xs) := fun b xs q => by
    have ne : b ≠ a := fun z => by subst z; exact lD xs q
    exact Rd.mono q fun u q => by rw [upd_ne ne]; exact q
  have nd1 : ∀ b, b ∈ C1 ++ C2 ∨ b ∈ D' ∨ b ∈ B' → b ≠ a := fun b hb z => by
    subst z
    have h1 := List.nodup_iff_count.mp nd b
    have h2 : 0 < (C1 ++ C2).count b ∨ 0 < D'.count b ∨ 0 < B'.count b := hb.imp List.count_pos_iff.mpr (Or.imp List.count_pos_iff.mpr List.count_pos_iff.mpr)
    simp only [List.count_append, List.count_cons, beq_self_eq_true, if_true] at h1 h2
    omega
  refine ⟨C1 ++ ((a :: D') ++ C2), ⟨⟨fun b o q n => ?_, fun b xs q => tup' b xs (s.go.tups b xs q), fun b hb => s.go.new b (sub b hb)⟩, nd, fun b hb => s.rt b (sub b hb), fun b z => ?_, fun b hb => ?_, ?_⟩, fun u y C hC ou => ?_⟩
  · have q1 := s.go.keep b o q n
    have ne : b ≠ a := fun z => by
      subst z
      rcases s.go.new b ain with z | z
      · exact n z
      · rw [z] at q; cases q
    rw [upd_ne ne]; exact q1
  · by_cases e : b = a
    · subst e; rw [upd_same]; exact fun q => by cases q
    · rw [upd_ne e]; exact s.th b z
  · rw [upd_ne (nd1 b (.inr (.inr hb)))]
    have hb2 := sub b (List.mem_append_right _ hb)
    rcases List.mem_append.mp hb2 with z | z
    · obtain ⟨o, q, _⟩ := RE.there _ _ _ s.re b z
      rw [q]; exact fun z => by cases z
    · exact s.bth b z
  · have := (hu (upd H1 a o') (Av ((C1 ++ ((a :: D') ++ C2)) ++ B') Rt) (fun b o q c => by
      have ne : b ≠ a := fun z => by
        rcases c with c | c
        · exact nd1 b (.inl c) z
        · exact c (by rw [z]; exact ava)
      rw [upd_ne ne]; exact q) tup' (fun b z => .inl (suba b z))).2 w' (.ref a) (a :: D') (OwnN.own (OwnN.mono ow (fun b o q c => by
        have ne : b ≠ a := fun z => by
          rcases c with c | c
          · exact nd1 b (.inr (.inl c)) z
          · exact c (by rw [z]; exact ava)
        rw [upd_ne ne]; exact q) tup' (fun b z => .inl (suba b z))) upd_same)
    rw [set_same ev] at this
    exact this
  · exact Own.mono u y C (fun b o q c => by
      have ne : b ≠ a := fun z => by
        rcases c with c | c
        · exact nd1 b (.inr (.inr (hC b c))) z
        · exact c (by rw [z]; exact ava)
      rw [upd_ne ne]; exact q) tup' (fun b z => .inl (suba b z)) ou
/-- an owned list in a slot is rewritten; B: what the new items own -/
theorem Sx.mut (s : Sx K Rt σ H A H1 env A1 B) (hi : env[i]? = some (some (.lst ws))) : ∃ a xs D, σ[i]? = some (some (.ref a)) ∧ H1 a = some (.lst xs) ∧ OwnL K H1 (Av (A1 ++ B) Rt) ws xs D ∧
    ∀ ws' xs' D', OwnL K H1 (Av (A1 ++ B) Rt) ws' xs' D' → (∀ b, D'.count b ≤ (D ++ B).count b) → ∃ A', Sx K Rt σ H A (upd H1 a (.lst xs')) (env.set i (some (.lst ws'))) A' [] := by
  obtain ⟨a, o, D, ev, ha, ⟨xs, rfl, hl⟩, k⟩ := s.mutG hi rfl
  refine ⟨a, xs, D, ev, ha, hl, fun ws' xs' D' ow cn => ?_⟩
  obtain ⟨A', s', _⟩ := k (.lst ws') (.lst xs') D' [] ⟨xs', rfl, ow⟩ fun b => by rw [List.append_nil]; exact cn b
  exact ⟨A', s'⟩
theorem putN_mem {κ : Type} [DecidableEq κ] : ∀ (ks : List κ) (j x : κ), x ∈ putN ks j ↔ x ∈ ks ∨ x = j
  | [], j, x => by simp [putN]
  | k :: ks, j, x => by
    unfold putN
    by_cases c : k = j
    · rw [if_pos c, List.mem_cons]
      exact ⟨.inl, fun h => h.elim id fun e => .inl (e.trans c.symm)⟩
    · rw [if_neg c, List.mem_cons, List.mem_cons, putN_mem ks j x, or_assoc]
theorem putN_nodup {κ : Type} [DecidableEq κ] : ∀ (ks : List κ) (j : κ), ks.Nodup → (putN ks j).Nodup
  | [], j, _ => by simp [putN]
  | k :: ks, j, nd => by
    unfold putN
    by_cases c : k = j
    · rw [if_pos c]; exact nd
    · rw [if_neg c]
      obtain ⟨n1, n2⟩ := List.nodup_cons.mp nd
      refine List.nodup_cons.mpr ⟨fun z => ?_, putN_nodup ks j n2⟩
      rcases (putN_mem ks j k).mp z with z | z
      · exact n1 z
      · exact c z
theorem putK_map {κ : Type} [DecidableEq κ] (j : κ) (v : V) : ∀ (kvs : List (κ × V)), (kvs.map (·.1)).Nodup → (putK kvs j v).map (·.1) = putN (kvs.map (·.1)) j ∧ (putK kvs j v).map (·.2) = putV (kvs.map (·.1)) (kvs.map (·.2)) j v
  | [], _ => ⟨rfl, rfl⟩
  | p :: r, nd => by
    obtain ⟨n1, n2⟩ := List.nodup_cons.mp (show (p.1 :: r.map (·.1)).Nodup from nd)
    have ih := putK_map j v r n2
    by_cases c : p.1 = j
    · have e : putK (p :: r) j v = (p.1, v) :: r := by
        unfold putK
        rw [if_pos (by simp [c])]
        rw [List.map_cons, if_pos c]
        refine congrArg _ ?_
        have : ∀ q ∈ r, (fun kv : κ × V => if kv.1 = j then (kv.1, v) else kv) q = q := fun q hq => by
          show (if q.1 = j then (q.1, v) else q) = q
          rw [if_neg fun z => n1 (by rw [c, ← z]; exact List.mem_map.mpr ⟨q, hq, rfl⟩)]
        rw [List.map_congr_left this, List.map_id']
      rw [e]
      refine ⟨?_, ?_⟩
      · show p.1 :: r.map (·.1) = (if p.1 = j then p.1 :: r.map (·.1) else _)
        rw [if_pos c]
      · show v :: r.map (·.2) = (if p.1 = j then v :: r.map (·.2) else _)
        rw [if_pos c]
    · have e : putK (p :: r) j v = p :: putK r j v := by
        unfold putK
        have a : ((p :: r).any fun kv => decide (kv.1 = j)) = (r.any fun kv => decide (kv.1 = j)) := by
          show (decide (p.1 = j) || _) = _
          rw [decide_eq_false c]; rfl
        rw [a]
        by_cases d : (r.any fun kv => decide (kv.1 = j)) = true
        · rw [if_pos d, if_pos d, List.map_cons, if_neg c]
        · rw [if_neg d, if_neg d]; rfl
      rw [e]
      refine ⟨?_, ?_⟩
      · show p.1 :: (putK r j v).map (·.1) = (if p.1 = j then p.1 :: r.map (·.1) else p.1 :: putN (r.map (·.1)) j)
        rw [if_neg c, ih.1]
      · show p.2 :: (putK r j v).map (·.2) = (if p.1 = j then v :: r.map (·.2) else p.2 :: putV (r.map (·.1)) (r.map (·.2)) j v)
        rw [if_neg c, ih.2]
theorem putF_map (j : Str) (v : V) : ∀ (kvs : List (Str × V)), (putF j v kvs).map (·.1) = putN (kvs.map (·.1)) j ∧ (putF j v kvs).map (·.2) = putV (kvs.map (·.1)) (kvs.map (·.2)) j v
  | [] => ⟨rfl, rfl⟩
  | (k, x) :: r => by
    have ih := putF_map j v r
    unfold putF
    by_cases c : k = j
    · rw [if_pos c]
      refine ⟨?_, ?_⟩
      · show k :: r.map (·.1) = (if k = j then k :: r.map (·.1) else _)
        rw [if_pos c]
      · show v :: r.map (·.2) = (if k = j then v :: r.map (·.2) else _)
        rw [if_pos c]
    · rw [if_neg c]
      refine ⟨?_, ?_⟩
      · show k :: (putF j v r).map (·.1) = (if k = j then k :: r.map (·.1) else k :: putN (r.map (·.1)) j)
        rw [if_neg c, ih.1]
      · show x :: (putF j v r).map (·.2) = (if k = j then v :: r.map (·.2) else x :: putV (r.map (·.1)) (r.map (·.2)) j v)
        rw [if_neg c, ih.2]
theorem OwnL.putV {κ : Type} [DecidableEq κ] (j : κ) (ow : Own K H1 av w y B) : ∀ (ns : List κ) (ws : List W) (xs : List V) (D : List Addr), ns.length = ws.length → OwnL K H1 av ws xs D → ∃ D', OwnL K H1 av (Ev.putV ns ws j w) (Ev.putV ns xs j y) D' ∧ ∀ b, D'.count b ≤ (D ++ B).count b
  | [], [], xs, D, _, h => by
    obtain ⟨rfl, rfl⟩ := h
    exact ⟨B, ⟨y, [], B, [], rfl, by simp, ow, rfl, rfl⟩, fun b => by simp⟩
  | n :: ns, u :: ws, xs, D, hl, h => by
    obtain ⟨v, r, D1, D2, rfl, rfl, h1, h2⟩ := h
    by_cases c : n = j
    · refine ⟨B ++ D2, ?_, fun b => ?_⟩
      · show OwnL K H1 av (if n = j then w :: ws else _) (if n = j then y :: r else _) _
        rw [if_pos c, if_pos c]
        exact ⟨y, r, B, D2, rfl, rfl, ow, h2⟩
      · simp only [List.count_append]
        omega
    · obtain ⟨D', q, cn⟩ := OwnL.putV j ow ns ws r D2 (by simpa using hl) h2
      refine ⟨D1 ++ D', ?_, fun b => ?_⟩
      · show OwnL K H1 av (if n = j then _ else u :: Ev.putV ns ws j w) (if n = j then _ else v :: Ev.putV ns r j y) _
        rw [if_neg c, if_neg c]
        exact ⟨v, _, D1, D', rfl, rfl, h1, q⟩
      · have := cn b
        simp only [List.count_append] at this ⊢
        omega
  | [], _ :: _, _, _, hl, _ => by cases hl
  | _ :: _, [], _, _, hl, _ => by cases hl
theorem OwnL.setN : ∀ (ws : List W) (xs : List V) (D : List Addr) (n : Nat), n < ws.length → OwnL K H1 av ws xs D → Own K H1 av w y B → ∃ D', OwnL K H1 av (ws.set n w) (xs.set n y) D' ∧ ∀ b, D'.count b ≤ (D ++ B).count b
  | [], _, _, _, h, _, _ => absurd h (Nat.not_lt_zero _)
  | u :: ws, xs, D, 0, _, h, ow => by
    obtain ⟨v, r, D1, D2, rfl, rfl, h1, h2⟩ := h
    refine ⟨B ++ D2, ⟨y, r, B, D2, rfl, rfl, ow, h2⟩, fun b => ?_⟩
    simp only [List.count_append]
    omega
  | u :: ws, xs, D, n + 1, hn, h, ow => by
    obtain ⟨v, r, D1, D2, rfl, rfl, h1, h2⟩ := h
    obtain ⟨D', q, c⟩ := OwnL.setN ws r D2 n (by simpa using hn) h2 ow
    refine ⟨D1 ++ D', ⟨v, r.set n y, D1, D', rfl, rfl, h1, q⟩, fun b => ?_⟩
    have := c b
    simp only [List.count_append] at this ⊢
    omega
end
section
variable {X : Cx} {g : Cfg} {ks : List Nat} {pos pos' : Pos} {a b c : Expr} {ia ib ic : E} {i : Nat} {x : Str} {st : Stmt} {rest : List Stmt} {s : S} {ss : Ss}
theorem lst_slot {K : PySem.W.Frag} {Rt : Addr → Prop} {H : Hp} {σ : St} {env : Env} {A : List Addr} {ws : List W} (re : RE K H (Av A Rt) env σ A) (e : env[i]? = some (some (.lst ws))) : ∃ a xs, σ[i]? = some (some (.ref a)) ∧ H a = some (.lst xs) := by
  obtain ⟨_, _, _, _, _, hw, _⟩ := RE.slot env σ A i re (List.getElem?_eq_some_iff.mp e).1
  obtain ⟨v, ev, a, xs, D, e1, e2, ha, hl⟩ := hw _ e
  subst e1
  exact ⟨a, xs, ev, ha⟩
theorem sns_app {apos cpos : Pos} (hN : X.N[i]? = some x) (hv : Vis X.env.scope x) (hd : (x == ("__debug__" : Str)) = false) (hcd : (x == ("__classdict__" : Str)) = false) (he : PE X a (tE X.K g ia))
    (hbase : attributeBase (.Name x pos') "append" X.env (eval (.Name x pos') X.env) = eval (.Name x pos') X.env)
    (hfew : ((backTo cpos (starEach [a] X.env)).all (fun x => !x.1) && (backToKw cpos (keywordEach [] X.env)).all (fun x => x.1.isSome)
      && decide ([a].length + ([] : List Keyword).length + (if ([] : List Keyword).isEmpty then 0 else 1) < 30)) = true)
    (hline : (apos.endLine == cpos.line) = true) (hs : starEach [a] X.env = [(false, eval a X.env)])
    (hsw : swapsWith (.Call (.Attribute (.Name x pos') "append" apos) [a] [] cpos) none pos.line X.env = pure false) : PS X (.Expr (.Call (.Attribute (.Name x pos') "append" apos) [a] [] cpos) pos) (tS X.K g ks (.app i ia)) :=
  PS.imp (ps_expr (pe_bm PySem.F.plainAttrs_list PySem.F.slot_list_append PySem.F.type_list_append mt_append (pe_var hN hv hd hcd) (pa_cons he pa_nil hs) hbase hfew hline hs rfl) hsw) fun D σ H hl ⟨Rt, env, A, rl, p⟩ => by
    have p0 : PostS X.K g ks Rt σ H A (match env[i]? with
      | some (some (.lst _)) => (evE g.G g.C ia env).bind fun w env1 => (match env1[i]? with
        | some (some (.lst ws)) => if decide (ws.length < 16777216) = true then .ok .nx (env1.set i (some (.lst (ws ++ [w])))) else .no
        | _ => .no)
      | _ => .no) D := p
    cases e : env[i]? with
    | none => rw [e] at p0; exact p0.elim
    | some o =>
    cases o with
    | none => rw [e] at p0; exact p0.elim
    | some w0 =>
    cases w0 with
    | val t => rw [e] at p0; exact p0.elim
    | set t => rw [e] at p0; exact p0.elim
    | nd _ _ => rw [e] at p0; exact p0.elim
    | lst ws0 =>
      rw [e] at p0
      obtain ⟨q, xs0, eq, hq⟩ := lst_slot rl.re e
      refine ⟨.ref q, eq, .inl ⟨rfl, xs0, SqL.of hq⟩, Rt, env, A, rl, PostS.seq p0 fun w e1 v H1 A1 B1 s1 o1 p1 => ?_⟩
      cases e' : e1[i]? with
      | none => rw [e'] at p1; exact p1.elim
      | some o =>
      cases o with
      | none => rw [e'] at p1; exact p1.elim
      | some w0 =>
      cases w0 with
      | val t => rw [e'] at p1; exact p1.elim
      | set t => rw [e'] at p1; exact p1.elim
      | nd _ _ => rw [e'] at p1; exact p1.elim
      | lst ws =>
        rw [e'] at p1
        have p2 : PostS X.K g ks Rt σ H A (if decide (ws.length < 16777216) = true then .ok .nx (e1.set i (some (.lst (ws ++ [w])))) else .no) D := p1
        by_cases c : decide (ws.length < 16777216) = true
        · rw [if_pos c] at p2
          obtain ⟨a', xs, D', ea, hx, ow, mk⟩ := s1.mut e'
          rw [eq] at ea
          cases ea
          obtain ⟨A', s2⟩ := mk (ws ++ [w]) (xs ++ [v]) (D' ++ B1) (OwnL.snoc ws xs D' ow o1) fun b => Nat.le_refl _
          exact ⟨q, xs, v, rfl, rfl, hx, by rw [sizeLine_eq, ← OwnL.len ws xs D' ow]; exact of_decide_eq_true c, p2 σ _ A' Kp.refl s2⟩
        · rw [if_neg c] at p2; exact p2.elim
theorem nd_slot {K : PySem.W.Frag} {Rt : Addr → Prop} {H : Hp} {σ : St} {env : Env} {A : List Addr} {w : W} (re : RE K H (Av A Rt) env σ A) (e : env[i]? = some (some w)) (hn : w.node = true) : ∃ a o D, σ[i]? = some (some (.ref a)) ∧ H a = some o ∧ OwnN K H (Av A Rt) w o D := by
  obtain ⟨_, _, _, _, _, hw, _⟩ := RE.slot env σ A i re (List.getElem?_eq_some_iff.mp e).1
  obtain ⟨v, ev, ow⟩ := hw _ e
  obtain ⟨a, o, D, rfl, _, ha, on⟩ := ow.node hn
  exact ⟨a, o, D, ev, ha, on⟩
theorem set_or {r1 r2 : V → V → V → Hp → (Hp → Prop) → Prop} (h1 : PSet X r1) (h2 : PSet X r2) : PSet X fun o i v H Q => r1 o i v H Q ∨ r2 o i v H Q := by
  unfold PSet at *
  intro pins s σ H o i v ov iv u Q I ro ri rv h
  rcases h with h | h
  · exact h1 pins s σ H o i v ov iv u Q I ro ri rv h
  · exact h2 pins s σ H o i v ov iv u Q I ro ri rv h
theorem key_w {K : PySem.W.Frag} {H : Hp} {av : Addr → Prop} {w : W} {v : V} {B : List Addr} {k : Key} (e : keyT w.fz = some k) (ow : Own K H av w v B) : v = kV k ∧ B = [] := by
  cases w with
  | val t => exact ⟨key_fz ow.2 e, ow.1⟩
  | lst ws => cases (show none = some k from e)
  | nd n ws => cases (show none = some k from e)
  | set ts => cases (show none = some k from e)
theorem sns_setx {tpos : Pos} (hu : X.A.units + 64 < cLine) (hN : X.N[i]? = some x) (hv : Vis X.env.scope x) (hd : (x == ("__debug__" : Str)) = false) (hcd : (x == ("__classdict__" : Str)) = false) (hb : PE X b (tE X.K g ib)) (he : PE X a (tE X.K g ia))
    (hsb : ∀ v, assign (.Subscript (.Name x pos') b tpos) X.env v = (do
      let ov ← holding [v] (eval (.Name x pos') X.env)
      let iv ← holding [v, ov] (eval b X.env)
      standAt tpos
      holding [v, ov, iv] (setItem ov iv v)
      release [v, ov, iv] []))
    (hs : swapsWithSole [.Subscript (.Name x pos') b tpos] a pos.line X.env = pure false) (hw : swappedStores [.Subscript (.Name x pos') b tpos] a X.env = pure none)
    (h1 : (assignEach [.Subscript (.Name x pos') b tpos] X.env).map (·.2) = [assign (.Subscript (.Name x pos') b tpos) X.env]) : PS X (.Assign [.Subscript (.Name x pos') b tpos] a pos) (tS X.K g ks (.setx i ib ia)) :=
  PS.imp (ps_asg he (pg_sub (pe_var hN hv hd hcd) hb (set_or set_list (set_dict (by omega))) hsb) hs hw h1) fun D σ H hl ⟨Rt, env, A, rl, p⟩ => by
    refine ⟨Rt, env, A, rl, PostS.seq p fun w e1 v H1 A1 B1 s1 o1 p0 => ?_⟩
    have no : ∀ {r : R F}, r = .no → PostS X.K g ks Rt σ H A r D → False := fun e h => by rw [e] at h; exact h
    cases e : e1[i]? with
    | none => exact (no (by simp only [e]) p0).elim
    | some o =>
    cases o with
    | none => exact (no (by simp only [e]) p0).elim
    | some w0 =>
    cases w0 with
    | val t => exact (no (by simp only [e]) p0).elim
    | set t => exact (no (by simp only [e]) p0).elim
    | nd n ws0 =>
      cases n with
      | dcl _ => exact (no (by simp only [e]) p0).elim
      | ins _ _ => exact (no (by simp only [e]) p0).elim
      | dct ks0 =>
        rw [e] at p0
        have p1 : PostS X.K g ks Rt σ H A ((evE g.G g.C ib e1).bind fun y env2 => (match env2[i]?, keyT y.fz with
          | some (some (.nd (.dct ks) ws)), some j => if decide (ks.length < 16777216) = true then .ok .nx (env2.set i (some (.nd (.dct (putN ks j)) (putV ks ws j w)))) else .no
          | _, _ => .no)) D := p0
        obtain ⟨q, o0, _, eq, hq, _⟩ := nd_slot (Rt := RtB B1 Rt) (A := A1) s1.rl.re e rfl
        refine ⟨.ref q, eq, RtB B1 Rt, e1, A1, s1.rl, PostS.seq2 s1 p1 fun y e2 v2 H2 A2 B2 s2 o2 p2 => ?_⟩
        have s3 := s1.next s2
        have w1 := s1.own s2 o1
        cases ek : keyT y.fz with
        | none => exact (no (by cases e2[i]? <;> simp only [ek]) p2).elim
        | some j =>
        obtain ⟨ev2, eB⟩ := key_w ek o2
        cases e' : e2[i]? with
        | none => exact (no (by simp only [e']) p2).elim
        | some o =>
        cases o with
        | none => exact (no (by simp only [e']) p2).elim
        | some w0 =>
        cases w0 with
        | val t => exact (no (by simp only [e']) p2).elim
        | set t => exact (no (by simp only [e']) p2).elim
        | lst t => exact (no (by simp only [e']) p2).elim
        | nd n ws =>
          cases n with
          | dcl _ => exact (no (by simp only [e']) p2).elim
          | ins _ _ => exact (no (by simp only [e']) p2).elim
          | dct js =>
            have p3 : PostS X.K g ks Rt σ H A (if decide (js.length < 16777216) = true then .ok .nx (e2.set i (some (.nd (.dct (putN js j)) (putV js ws j w)))) else .no) D := by
              simp only [e', ek] at p2
              exact p2
            by_cases c : decide (js.length < 16777216) = true
            · rw [if_pos c] at p3
              subst eB
              rw [List.append_nil] at s3 w1
              obtain ⟨a', o', D', ea, hx, ⟨xs, ⟨⟨kvs, eo, f1, f2, nd⟩, _⟩, hl'⟩, mk⟩ := s3.mutG e' rfl
              subst eo
              rw [eq] at ea
              cases ea
              have lk : js.length = kvs.length := by rw [← f1, List.length_map]
              have pm := putK_map j v kvs (by rw [f1]; exact nd)
              have jl : js.length = ws.length := by rw [OwnL.len ws xs D' hl', ← f2, List.length_map]; exact lk
              obtain ⟨D2, q1, q2⟩ := OwnL.putV j w1 js ws xs D' jl hl'
              obtain ⟨A', s4, _⟩ := mk (.nd (.dct (putN js j)) (putV js ws j w)) (.dK (putK kvs j v)) D2 [] ⟨Ev.putV js xs j v, ⟨⟨_, rfl, by rw [pm.1, f1], by rw [pm.2, f1, f2], putN_nodup js j nd⟩, rfl⟩, q1⟩ fun b => by rw [List.append_nil]; exact q2 b
              exact .inr ⟨q, _, rfl, .inl ⟨kvs, j, hx, ev2, by rw [sizeLine_eq, ← lk]; exact of_decide_eq_true c, rfl⟩, p3 σ _ A' Kp.refl s4⟩
            · rw [if_neg c] at p3; exact p3.elim
    | lst ws0 =>
      rw [e] at p0
      have p1 : PostS X.K g ks Rt σ H A ((evE g.G g.C ib e1).bind fun y env2 => (match env2[i]? with
        | some (some (.lst ws)) => (match y.fz with
          | .int j => (match L2.ixN ws.length j with
            | some n => .ok .nx (env2.set i (some (.lst (ws.set n w))))
            | none => .no)
          | _ => .no)
        | _ => .no)) D := p0
      obtain ⟨q, xs0, eq, hq⟩ := lst_slot (Rt := RtB B1 Rt) (A := A1) s1.rl.re e
      refine ⟨.ref q, eq, RtB B1 Rt, e1, A1, s1.rl, PostS.seq2 s1 p1 fun y e2 v2 H2 A2 B2 s2 o2 p2 => ?_⟩
      have s3 := s1.next s2
      have w1 := s1.own s2 o1
      have w2 := Sx.own2 (B1 := B1) o2
      cases e' : e2[i]? with
      | none => rw [e'] at p2; exact p2.elim
      | some o =>
      cases o with
      | none => rw [e'] at p2; exact p2.elim
      | some w0 =>
      cases w0 with
      | val t => rw [e'] at p2; exact p2.elim
      | set t => rw [e'] at p2; exact p2.elim
      | nd _ _ => rw [e'] at p2; exact p2.elim
      | lst ws =>
        rw [e'] at p2
        cases ey : y.fz with
        | int j =>
          simp only [ey] at p2
          cases en : L2.ixN ws.length j with
          | none => rw [en] at p2; exact p2.elim
          | some n =>
            rw [en] at p2
            have eB := fzo_int ey o2
            subst eB
            rw [List.append_nil] at s3 w1
            obtain ⟨a', xs, D', ea, hx, ow, mk⟩ := s3.mut e'
            rw [eq] at ea
            cases ea
            have hlen := OwnL.len ws xs D' ow
            have hn : n < ws.length := (ixN_seq en).2.1
            obtain ⟨D2, q1, q2⟩ := OwnL.setN ws xs D' n hn ow w1
            obtain ⟨A', s4⟩ := mk _ _ D2 q1 q2
            exact .inl ⟨q, xs, j, n, rfl, fz_int ey o2, hx, by rw [← hlen]; exact en, p2 σ _ A' Kp.refl s4⟩
        | _ => simp only [ey] at p2; exact p2.elim
/-! ### for -/
theorem sns_for {tg iter : Expr} {body : List Stmt} {tgi : Tg} {it : Ev.It} {sb : Ss} (hp : PassesOwn (model X.prog X.w) X.A X.env X.xe) (hc : X.calm = true) (hi : PI X tg iter (tI X.K g it)) (hg : PG X tg (gT X.K tgi)) (hb : PSs X body (tSs X.K g ks sb))
    (hlen : ∀ i ∈ tgs tgi, i < X.N.length) (hk : ∀ j ∈ ks, (tgs tgi).contains j = false) (hs : ∀ x, foldedSetIterable iter X.env x = pure x) : PS X (.For tg iter body [] pos) (tS X.K g ks (.for_ tgi it sb)) :=
  PS.imp (ps_for hp hc hi hg hb hs) fun D σ H hl ⟨Rt, env, A, rl, p⟩ => by
    refine ⟨Rt, env, A, rl, PostS.seq p fun ts e1 J H1 A1 B1 s1 o1 p1 => ?_⟩
    obtain ⟨rfl, P, jt, pP⟩ := o1
    have kd : ∀ j ∈ ks, j ∉ tgs tgi := fun j hj z => by
      have := hk j hj
      rw [List.contains_iff_mem.mpr z] at this
      cases this
    let Wi : Nat → St → Hp → Prop := fun i σ' H' => ∃ envi Ai, Kp ks σ σ' ∧ Sx X.K Rt σ' H A H' envi Ai [] ∧ P H' (Av (Ai ++ []) Rt) ∧ σ'.length = X.N.length ∧ PostS X.K g ks Rt σ H A (forL tgi (evSs g.G g.C sb) (ts.drop i) envi) D
    refine ⟨fun i m σ' H' => m = ts.length - i ∧ i ≤ ts.length ∧ Wi i σ' H', ⟨ts.length, by simp, Nat.zero_le _, e1, A1, Kp.refl, s1, pP, hl, by simpa using p1⟩, ?_⟩
    rintro i m σ' H' ⟨rfl, hile, envi, Ai, kp, sx, pH, hl', po⟩
    by_cases hlt : i < ts.length
    · have et : ts.drop i = ts[i] :: ts.drop (i + 1) := List.drop_eq_getElem_cons hlt
      have gi : ts[i]? = some ts[i] := List.getElem?_eq_getElem hlt
      rw [et] at po
      have po1 : PostS X.K g ks Rt σ H A (match tgE tgi ts[i] envi with
        | none => .no
        | some env1 => (evSs g.G g.C sb env1).bind fun f env2 => match f with
          | .nx => forL tgi (evSs g.G g.C sb) (ts.drop (i + 1)) env2
          | .ct => forL tgi (evSs g.G g.C sb) (ts.drop (i + 1)) env2
          | .bk => .ok .nx env2
          | .rt w => .ok (.rt w) env2) D := po
      cases etg : tgE tgi ts[i] envi with
      | none => rw [etg] at po1; exact po1.elim
      | some env1 =>
      rw [etg] at po1
      have po2 : PostS X.K g ks Rt σ H A ((evSs g.G g.C sb env1).bind fun f env2 => match f with
          | .nx => forL tgi (evSs g.G g.C sb) (ts.drop (i + 1)) env2
          | .ct => forL tgi (evSs g.G g.C sb) (ts.drop (i + 1)) env2
          | .bk => .ok .nx env2
          | .rt w => .ok (.rt w) env2) D := po1
      refine .inr ⟨jt.go H' _ i _ pH gi, Wi (i + 1), fun σ2 H2 w => ⟨ts.length - (i + 1), by omega, rfl, hlt, w⟩, fun x Hy y => ?_⟩
      obtain ⟨ext, fx⟩ := jt.yld H' _ i _ x Hy pH gi y
      have sx1 := sx.ext ext
      have pH1 : P Hy (Av (Ai ++ []) Rt) := jt.mono _ _ _ _ pH (fun b o q _ => ext b o q) (fun b xs q => Rd.mono q fun o q => ext b o q) (fun b z => .inl z)
      have elen : envi.length = X.N.length := by rw [RE.len _ _ _ sx.re, hl']
      have fx1 : Fz X.K Hy (Av Ai Rt) ts[i] x := by rw [List.append_nil] at fx; exact fx
      refine tg_ok tgi (fun j hj => by rw [elen]; exact hlen j hj) sx1.rl0 fx1 etg fun σ2 A2 sub rl2 kσ => ?_
      have l2 : σ2.length = X.N.length := by rw [← RE.len _ _ _ rl2.re, tgE_len etg, elen]
      have kp2 : Kp ks σ σ2 := kp.trans ⟨l2.trans hl'.symm, fun j hj => kσ j (kd j hj)⟩
      have sxT : Sx X.K Rt σ2 H A Hy env1 A2 [] := sx1.retg (by rw [show RtB [] Rt = Rt from funext fun b => propext (rtB_nil b)]; exact rl2) sub
      have pT : P Hy (Av (A2 ++ []) Rt) := jt.mono _ _ _ _ pH1 (fun _ _ q _ => q) (fun _ _ q => q) (fun b z => .inl (by
        rw [List.append_nil] at z ⊢
        exact z.imp (sub b) id))
      refine ⟨Rt, env1, A2, rl2, ?_⟩
      -- what the body reaches
      have again : ∀ env2 σ3 H3 A3, Kp ks σ2 σ3 → Sx X.K Rt σ3 Hy A2 H3 env2 A3 [] → PostS X.K g ks Rt σ H A (forL tgi (evSs g.G g.C sb) (ts.drop (i + 1)) env2) D → Wi (i + 1) σ3 H3 := fun env2 σ3 H3 A3 k3 s3 po3 => by
        have s3' : Sx X.K (RtB [] Rt) σ3 Hy A2 H3 env2 A3 [] := s3.rt0 rtB_nil
        have p3 := sxT.nextP jt s3' pT
        exact ⟨env2, A3, kp2.trans k3, sxT.next0 s3, p3, k3.1.trans l2, po3⟩
      cases eb : evSs g.G g.C sb env1 with
      | no => rw [eb] at po2; exact po2.elim
      | exc c t env2 =>
        rw [eb] at po2
        exact fun cls d σ3 H3 A3 k3 s3 px => po2 cls d σ3 H3 A3 (kp2.trans k3) (sxT.next0 s3) px
      | ok f env2 =>
        rw [eb] at po2
        cases f with
        | nx => exact fun σ3 H3 A3 k3 s3 => again env2 σ3 H3 A3 k3 s3 po2
        | ct => exact fun σ3 H3 A3 k3 s3 => again env2 σ3 H3 A3 k3 s3 po2
        | bk => exact fun σ3 H3 A3 k3 s3 => po2 σ3 H3 A3 (kp2.trans k3) (sxT.next0 s3)
        | rt w => exact fun v σ3 H3 A3 B3 k3 s3 ow => po2 v σ3 H3 A3 B3 (kp2.trans k3) (sxT.next0 s3) ow
    · have ei : i = ts.length := by omega
      subst ei
      rw [List.drop_length] at po
      exact .inl ⟨jt.stop H' _ _ pH (Nat.le_refl _), po σ' H' Ai kp sx⟩
end
end Ev
/-! Ev11: calls of defs; what a def promises. -/
namespace Ev
open PySem L2
/-- what a def promises: io the parameters that are handed out again, n how many parameters -/
def spC (K : PySem.W.Frag) (xr : XR) (C : Calls) (f : Nat) (io : List Nat) (n : Nat) : Sp := fun vs H Q E => vs.length = n ∧ ∃ Rt ws A, Rl K Rt H (vs.map some) (ws.map some) A ∧ (match C f ws with
  | .ok w outs => ∀ v H' A' B, Sx K Rt (io.map fun j => vs[j]?) H A H' outs A' B → Own K H' (Av (A' ++ B) Rt) w v B → Q v H'
  | .exc c t outs => ∀ cls d H' A', Sx K Rt (io.map fun j => vs[j]?) H A H' outs A' [] → xr c t H' (Av (A' ++ []) Rt) cls d → E cls d H'
  | .no => False)
/-! ### arguments -/
def slots : As → List Nat
  | .nil => []
  | .cons _ as => slots as
  | .io i as => i :: slots as
def ioPos : Nat → As → List Nat
  | _, .nil => []
  | k, .cons _ as => ioPos (k + 1) as
  | k, .io _ as => k :: ioPos (k + 1) as
def VsAt (σ : St) : As → List V → Prop
  | .nil, vs => vs = []
  | .cons _ as, vs => ∃ v r, vs = v :: r ∧ VsAt σ as r
  | .io i as, vs => ∃ v r, vs = v :: r ∧ σ[i]? = some (some v) ∧ VsAt σ as r
section
variable (K : PySem.W.Frag) (g : Cfg)
def POA (σ : St) (as : As) : List W × List Nat → List V → Hp → (Addr → Prop) → List Addr → Prop := fun a vs H av B => OwnL K H av a.1 vs B ∧ a.2 = slots as ∧ VsAt σ as vs
def tA (as : As) : TA := fun σ H Q => ∃ Rt env A, Rl K Rt H σ env A ∧ Post K g (POA K σ as) Rt σ H A (evA g.G g.C as env) Q
end
/-- the slots hold what the list says -/
def Same (σ : St) : List Nat → St → Prop
  | [], o => o = []
  | i :: is, o => ∃ x r, o = x :: r ∧ σ[i]? = some x ∧ Same σ is r
theorem same_of {σ : St} {post : List V} : ∀ (as : As) (vs pre : List V), VsAt σ as vs → Same σ (slots as) ((ioPos pre.length as).map fun j => (pre ++ (vs ++ post))[j]?)
  | .nil, vs, pre, h => rfl
  | .cons _ as, vs, pre, h => by
    obtain ⟨v, r, rfl, h⟩ := h
    have := same_of (post := post) as r (pre ++ [v]) h
    rw [List.length_append, List.length_singleton, List.append_assoc] at this
    exact this
  | .io i as, vs, pre, h => by
    obtain ⟨v, r, rfl, hi, h⟩ := h
    have := same_of (post := post) as r (pre ++ [v]) h
    rw [List.length_append, List.length_singleton, List.append_assoc] at this
    refine ⟨some v, _, ?_, hi, this⟩
    show (pre ++ (v :: r ++ post))[pre.length]? :: _ = _
    rw [List.getElem?_append_right (Nat.le_refl _), Nat.sub_self]
    rfl
section
variable {K : PySem.W.Frag} {g : Cfg} {Rt : Addr → Prop} {H H1 H2 : Hp} {σ σo : St} {env env1 env2 outs : Env} {A A1 A2 B B1 B2 : List Addr} {w : W} {ws : List W} {v : V} {vs : List V} {av : Addr → Prop} {i : Nat}
theorem OwnL.re : ∀ (ws : List W) (vs : List V) (B : List Addr), OwnL K H av ws vs B → RE K H av (ws.map some) (vs.map some) B
  | [], vs, B, h => by
    obtain ⟨rfl, rfl⟩ := h
    exact ⟨rfl, rfl⟩
  | w :: ws, vs, B, h => by
    obtain ⟨v, r, B1, B2, rfl, rfl, h1, h2⟩ := h
    exact ⟨v, r.map some, B1, B2, rfl, rfl, h1, OwnL.re ws r B2 h2⟩
theorem OwnL.vals {ts : List T} {us : List V} : ∀ (ws : List W) (vs : List V) (B : List Addr), OwnL K H av ws vs B → FzL K H av ts us → OwnL K H av (ws ++ ts.map W.val) (vs ++ us) B
  | [], vs, B, h, f => by
    obtain ⟨rfl, rfl⟩ := h
    exact FzL.own ts us f
  | w :: ws, vs, B, h, f => by
    obtain ⟨v, r, B1, B2, rfl, rfl, h1, h2⟩ := h
    exact ⟨v, r ++ us, B1, B2, rfl, rfl, h1, OwnL.vals ws r B2 h2 f⟩
theorem RE.nones (k : Nat) : ∀ (env : Env) (σ : St) (A : List Addr), RE K H av env σ A → RE K H av (env ++ List.replicate k none) (σ ++ List.replicate k none) A
  | [], σ, A, h => by
    obtain ⟨rfl, rfl⟩ := h
    induction k with
    | zero => exact ⟨rfl, rfl⟩
    | succ k ih => exact ⟨none, _, rfl, ih⟩
  | none :: env, σ, A, h => by
    obtain ⟨o, r, rfl, h⟩ := h
    exact ⟨o, _, rfl, RE.nones k env r A h⟩
  | some w :: env, σ, A, h => by
    obtain ⟨v, r, B, D, rfl, rfl, h1, h2⟩ := h
    exact ⟨v, _, B, D, rfl, rfl, h1, RE.nones k env r D h2⟩
/-- some slots alone -/
theorem RE.pick : ∀ (io : List Nat) (env : Env) (A : List Addr), io.Nodup → (∀ j ∈ io, j < env.length) → RE K H av env σ A → ∃ A', (∀ b, A'.count b ≤ A.count b) ∧ RE K H av (outE env io) (io.map fun j => (σ[j]?).getD none) A'
  | [], env, A, _, _, h => ⟨[], fun b => by simp, rfl, rfl⟩
  | j :: io, env, A, nd, hl, h => by
    obtain ⟨nj, nd⟩ := List.nodup_cons.mp nd
    obtain ⟨A1, B, A2, eA, hn, hw, hu⟩ := RE.slot env σ A j h (hl j List.mem_cons_self)
    have jl : j < σ.length := by rw [← RE.len _ _ _ h]; exact hl j List.mem_cons_self
    have es : σ[j]? = some ((σ[j]?).getD none) := by rw [List.getElem?_eq_getElem jl]; rfl
    have h2 := (hu H av (fun _ _ q _ => q) (fun _ _ q => q) fun b z => .inl z).1 ((σ[j]?).getD none)
    rw [set_same es] at h2
    obtain ⟨A', c, re⟩ := RE.pick io (env.set j none) (A1 ++ A2) nd (fun k hk => by rw [List.length_set]; exact hl k (List.mem_cons_of_mem _ hk)) h2
    have eo : outE (env.set j none) io = outE env io := List.map_congr_left fun k hk => by
      rw [List.getElem?_set_ne fun z : j = k => nj (by rw [z]; exact hk)]
    rw [eo] at re
    have jl2 := hl j List.mem_cons_self
    cases e : env[j] with
    | none =>
      have eg : env[j]? = some none := by rw [List.getElem?_eq_getElem jl2, e]
      refine ⟨A', fun b => ?_, ?_⟩
      · have := c b
        rw [eA]
        simp only [List.count_append] at this ⊢
        omega
      · show RE K H av ((env[j]?).getD none :: outE env io) _ A'
        rw [eg]
        exact ⟨_, _, rfl, re⟩
    | some w =>
      have eg : env[j]? = some (some w) := by rw [List.getElem?_eq_getElem jl2, e]
      obtain ⟨v, ev, ow⟩ := hw w eg
      refine ⟨B ++ A', fun b => ?_, ?_⟩
      · have := c b
        rw [eA]
        simp only [List.count_append] at this ⊢
        omega
      · show RE K H av ((env[j]?).getD none :: outE env io) ((σ[j]?).getD none :: _) (B ++ A')
        rw [eg, ev]
        exact ⟨v, _, B, A', rfl, rfl, ow, re⟩
/-- the state behind a call, by the caller -/
theorem Sx.back (s1 : Sx K Rt σ H A H1 env1 A1 B1) (s2 : Sx K (RtB A1 Rt) σo H1 B1 H2 outs A2 B2) : Sx K Rt σ H A H2 env1 A1 (A2 ++ B2) ∧ RE K H2 (Av (A1 ++ (A2 ++ B2)) Rt) outs σo A2 := by
  have nB : ∀ b o, H b = some o → b ∉ A → b ∉ B1 := fun b o q n z => (s1.go.new b (List.mem_append_right _ z)).elim n fun e => by rw [e] at q; cases q
  have nA1 : ∀ b ∈ A1, b ∉ B1 := fun b hb z => (List.nodup_append.mp s1.nd).2.2 b hb b z rfl
  have old : ∀ b, H1 b = none → b ∈ A ∨ H b = none := fun b z => by
    by_cases ha : b ∈ A
    · exact .inl ha
    · cases q : H b with
      | none => exact .inr rfl
      | some o => rw [s1.go.keep b o q ha] at z; cases z
  have hav : ∀ b, Av (A1 ++ (A2 ++ B2)) Rt b → Av (A1 ++ B1) Rt b ∨ H1 b = none := fun b z => by
    rcases z with z | z
    · rcases List.mem_append.mp z with z | z
      · exact .inl (.inl (List.mem_append_left _ z))
      · exact (s2.go.new b z).imp (fun z => .inl (List.mem_append_right _ z)) id
    · exact .inl (.inr z)
  refine ⟨⟨⟨fun b o q n => s2.go.keep b o (s1.go.keep b o q n) (nB b o q n), fun b xs q => s2.go.tups b xs (s1.go.tups b xs q), fun b hb => ?_⟩, ?_, fun b hb z => ?_, fun b z => s2.th b (.inr z), fun b hb => ?_, ?_⟩, ?_⟩
  · rcases List.mem_append.mp hb with hb | hb
    · exact s1.go.new b (List.mem_append_left _ hb)
    · rcases s2.go.new b hb with z | z
      · exact s1.go.new b (List.mem_append_right _ z)
      · exact old b z
  · exact List.nodup_append.mpr ⟨(List.nodup_append.mp s1.nd).1, s2.nd, fun a ha b hb e => by
      subst e
      exact s2.rt a hb (.inl ha)⟩
  · rcases List.mem_append.mp hb with hb | hb
    · exact s1.rt b (List.mem_append_left _ hb) z
    · exact s2.rt b hb (.inr z)
  · rcases List.mem_append.mp hb with hb | hb
    · obtain ⟨o, q, _⟩ := RE.there _ _ _ s2.re b hb
      rw [q]; exact fun z => by cases z
    · exact s2.bth b hb
  · exact RE.mono env1 σ A1 (fun b o q c => s2.go.keep b o q fun z => by
      rcases c with c | c
      · exact nA1 b c z
      · exact c (.inl (List.mem_append_right _ z))) s2.go.tups hav s1.re
  · exact RE.mono outs σo A2 (fun _ _ q _ => q) (fun _ _ q => q) (fun b z => .inl (by
      rcases z with z | z
      · rcases List.mem_append.mp z with z | z
        · exact .inr (.inl z)
        · exact .inl z
      · exact .inr (.inr z))) s2.re
/-- a slot is emptied -/
theorem Sx.clear (s : Sx K Rt σ H A H1 env A1 B) (hi : i < env.length) : ∃ A', Sx K Rt σ H A H1 (env.set i none) A' B ∧ ∀ b, Av (A' ++ B) Rt b → Av (A1 ++ B) Rt b := by
  obtain ⟨C1, Bo, C2, eA, hn, hw, hu⟩ := RE.slot env σ A1 i s.re hi
  subst eA
  have il : i < σ.length := by rw [← RE.len _ _ _ s.re]; exact hi
  have es : σ[i]? = some ((σ[i]?).getD none) := by rw [List.getElem?_eq_getElem il]; rfl
  have cnt : ∀ b, ((C1 ++ C2) ++ B).count b ≤ ((C1 ++ (Bo ++ C2)) ++ B).count b := fun b => by
    simp only [List.count_append]
    omega
  have sub : ∀ b ∈ (C1 ++ C2) ++ B, b ∈ (C1 ++ (Bo ++ C2)) ++ B := fun b hb => List.count_pos_iff.mp (Nat.lt_of_lt_of_le (List.count_pos_iff.mpr hb) (cnt b))
  have suba : ∀ b, Av ((C1 ++ C2) ++ B) Rt b → Av ((C1 ++ (Bo ++ C2)) ++ B) Rt b := fun b z => z.imp (sub b) id
  refine ⟨C1 ++ C2, ⟨s.go.sub sub, List.nodup_iff_count.mpr fun b => Nat.le_trans (cnt b) (List.nodup_iff_count.mp s.nd b), fun b hb => s.rt b (sub b hb), s.th, s.bth, ?_⟩, suba⟩
  have := (hu H1 (Av ((C1 ++ C2) ++ B) Rt) (fun _ _ q _ => q) (fun _ _ q => q) fun b z => .inl (suba b z)).1 ((σ[i]?).getD none)
  rw [set_same es] at this
  exact this
/-- the outs are back in their slots -/
theorem Sx.backs : ∀ (is : List Nat) (outs : Env) (σo : St) (env : Env) (A1 A2 : List Addr), Same σ is σo → Sx K Rt σ H A H1 env A1 (A2 ++ B) → RE K H1 (Av (A1 ++ (A2 ++ B)) Rt) outs σo A2 →
    ∃ A', Sx K Rt σ H A H1 (backO is outs env) A' B ∧ ∀ b, Av (A' ++ B) Rt b → Av (A1 ++ (A2 ++ B)) Rt b
  | [], outs, σo, env, A1, A2, sm, s, re => by
    cases (show σo = [] from sm)
    cases outs with
    | nil =>
      obtain ⟨_, rfl⟩ := re
      exact ⟨A1, s, fun b z => z⟩
    | cons o outs => exact absurd (RE.len _ _ _ re) (by simp)
  | i :: is, outs, σo, env, A1, A2, sm, s, re => by
    obtain ⟨x, r, rfl, hx, sm⟩ := sm
    have hi : i < env.length := by rw [RE.len _ _ _ s.re]; exact (List.getElem?_eq_some_iff.mp hx).1
    cases outs with
    | nil => exact absurd (RE.len _ _ _ re) (by simp)
    | cons o outs =>
      cases o with
      | none =>
        obtain ⟨y, r', e, re⟩ := re
        cases e
        obtain ⟨A', s', sub⟩ := s.clear hi
        obtain ⟨A'', s'', sub'⟩ := Sx.backs is outs r (env.set i none) A' A2 sm s' (RE.mono _ _ _ (fun _ _ q _ => q) (fun _ _ q => q) (fun b z => .inl (sub b z)) re)
        exact ⟨A'', s'', fun b z => sub b (sub' b z)⟩
      | some w =>
        obtain ⟨v, r', D1, D2, e, rfl, ow, re⟩ := re
        cases e
        rw [List.append_assoc] at s ow re
        obtain ⟨A', s', sub⟩ := s.put ow hi
        rw [set_same hx] at s'
        obtain ⟨A'', s'', sub'⟩ := Sx.backs is outs r (env.set i (some w)) A' D2 sm s' (RE.mono _ _ _ (fun _ _ q _ => q) (fun _ _ q => q) (fun b z => .inl (sub b z)) re)
        exact ⟨A'', s'', fun b z => by rw [List.append_assoc]; exact sub b (sub' b z)⟩
end
section
variable {X : Cx} {g : Cfg} {pos : Pos} {a b c : Expr} {es : List Expr} {ia ib ic : E} {as : As} {i : Nat} {x : Str}
theorem sna_nil : PA X [] (tA X.K g .nil) := PA.imp pa_nil fun σ H Q ⟨Rt, env, A, rl, p⟩ => p [] H A [] rl.sx ⟨⟨rfl, rfl⟩, rfl, rfl⟩
theorem sna_cons (he : PE X a (tE X.K g ia)) (hs : PA X es (tA X.K g as)) (hst : starEach (a :: es) X.env = (false, eval a X.env) :: starEach es X.env) : PA X (a :: es) (tA X.K g (.cons ia as)) :=
  PA.imp (pa_cons he hs hst) fun σ H Q ⟨Rt, env, A, rl, p⟩ => by
    refine ⟨Rt, env, A, rl, Post.seq p fun w e1 v1 H1 A1 B1 s1 o1 p1 => ?_⟩
    have fz := s1.fz0 o1
    have s0 := s1.drop0
    refine ⟨RtB [] Rt, e1, A1, s0.rl, Post.seq2 s0 p1 fun r e2 vs H2 A2 B2 s2 o2 p2 => ?_⟩
    obtain ⟨o2, e2', va⟩ := o2
    refine p2 (v1 :: vs) H2 A2 B2 (s0.next s2) ⟨⟨v1, vs, [], B2, rfl, rfl, s0.own s2 (w := .val w.fz) ⟨rfl, fz⟩, Sx.ownL2 (B1 := []) o2⟩, e2', v1, vs, rfl, va⟩
theorem sna_io (hN : X.N[i]? = some x) (hv : Vis X.env.scope x) (hd : (x == ("__debug__" : Str)) = false) (hcd : (x == ("__classdict__" : Str)) = false) (hs : PA X es (tA X.K g as))
    (hst : starEach (.Name x pos :: es) X.env = (false, eval (.Name x pos) X.env) :: starEach es X.env) : PA X (.Name x pos :: es) (tA X.K g (.io i as)) :=
  PA.imp (pa_cons (pe_var hN hv hd hcd) hs hst) fun σ H Q ⟨Rt, env, A, rl, p⟩ => by
    have p' : Post X.K g (POA X.K σ (.io i as)) Rt σ H A (match env[i]? with
      | some (some w) => (evA g.G g.C as (env.set i none)).bind fun r env2 => .ok (w :: r.1, i :: r.2) env2
      | _ => .no) Q := p
    cases e : env[i]? with
    | none => rw [e] at p'; exact p'.elim
    | some o =>
    cases o with
    | none => rw [e] at p'; exact p'.elim
    | some w =>
      rw [e] at p'
      have hi : i < env.length := (List.getElem?_eq_some_iff.mp e).1
      obtain ⟨A1, B, A2, eA, _, hw, hu⟩ := RE.slot env σ A i rl.re hi
      obtain ⟨v, ev, ow⟩ := hw w e
      subst eA
      have eqm : ∀ b, b ∈ (A1 ++ A2) ++ B ↔ b ∈ A1 ++ (B ++ A2) := fun b => by
        simp only [List.mem_append]
        constructor
        · rintro ((z | z) | z)
          · exact .inl z
          · exact .inr (.inr z)
          · exact .inr (.inl z)
        · rintro (z | z | z)
          · exact .inl (.inl z)
          · exact .inr z
          · exact .inl (.inr z)
      have suba : ∀ b, Av ((A1 ++ A2) ++ B) Rt b → Av (A1 ++ (B ++ A2)) Rt b := fun b z => z.imp (eqm b).mp id
      have re := (hu H (Av ((A1 ++ A2) ++ B) Rt) (fun _ _ q _ => q) (fun _ _ q => q) (fun b z => .inl (suba b z))).1 (some v)
      rw [set_same ev] at re
      have nd : ((A1 ++ A2) ++ B).Nodup := perm_nodup (by
        rw [List.perm_iff_count]
        intro a
        simp only [List.count_append]
        omega) rl.nd
      have s1 : Sx X.K Rt σ H (A1 ++ (B ++ A2)) H (env.set i none) (A1 ++ A2) B := ⟨Go.refl.sub fun b hb => (eqm b).mp hb, nd, fun b hb => rl.rt b ((eqm b).mp hb), rl.th, (fun b hb => by
        obtain ⟨o, q, _⟩ := Own.there w v B ow b hb
        rw [q]; exact (fun z => by cases z)), re⟩
      have o1 : Own X.K H (Av ((A1 ++ A2) ++ B) Rt) w v B := Own.mono w v B (fun _ _ q _ => q) (fun _ _ q => q) (fun b z => .inl (suba b z)) ow
      refine ⟨v, ev, RtB B Rt, env.set i none, A1 ++ A2, s1.rl, Post.seq2 s1 p' fun r e2 vs H2 A3 B2 s2 o2 p2 => ?_⟩
      obtain ⟨o2, e2', va⟩ := o2
      exact p2 (v :: vs) H2 A3 (B ++ B2) (s1.next s2) ⟨⟨v, vs, B, B2, rfl, rfl, s1.own s2 o1, Sx.ownL2 o2⟩, congrArg (i :: ·) e2', v, vs, rfl, ev, va⟩
/-- the callee's promise from the caller's state -/
theorem call_ev {K : PySem.W.Frag} {f n : Nat} {io : List Nat} {ds : List T} {dvs : List V} {Rt : Addr → Prop} {σ : St} {H H1 : Hp} {A A1 B1 : List Addr} {e1 : Env} {ws : List W × List Nat} {vs : List V} {Q : VK} (hio : ioPos 0 as = io) (hdv : ∀ H av, FzL K H av ds dvs)
    (hn : (vs ++ dvs).length = n) (s1 : Sx K Rt σ H A H1 e1 A1 B1) (o1 : POA K σ as ws vs H1 (Av (A1 ++ B1) Rt) B1)
    (p : Post K g (PO1 K) Rt σ H A (match g.C f (ws.1 ++ ds.map .val) with
      | .ok w outs => .ok w (backO ws.2 outs e1)
      | .exc c t outs => .exc c t (backO ws.2 outs e1)
      | .no => .no) Q) : spC K g.xr g.C f io n (vs ++ dvs) H1 Q (WE g.W σ) := by
  obtain ⟨o1, e2, va⟩ := o1
  have sm : Same σ ws.2 (io.map fun j => (vs ++ dvs)[j]?) := by
    rw [e2, ← hio]
    exact same_of as vs [] va
  have avq : ∀ b, Av B1 (RtB A1 Rt) b → Av (A1 ++ B1) Rt b := fun b z => by
    rcases z with z | z | z
    · exact .inl (List.mem_append_right _ z)
    · exact .inl (List.mem_append_left _ z)
    · exact .inr z
  have ow : OwnL K H1 (Av B1 (RtB A1 Rt)) (ws.1 ++ ds.map .val) (vs ++ dvs) B1 := OwnL.vals ws.1 vs B1 (OwnL.mono _ _ _ (fun _ _ q _ => q) (fun _ _ q => q) (fun b z => .inl (avq b z)) o1) (hdv _ _)
  refine ⟨hn, RtB A1 Rt, ws.1 ++ ds.map .val, B1, ⟨(List.nodup_append.mp s1.nd).2.1, fun b hb z => ?_, fun b z => ?_, OwnL.re _ _ _ ow⟩, ?_⟩
  · rcases z with z | z
    · exact (List.nodup_append.mp s1.nd).2.2 b z b hb rfl
    · exact s1.rt b (List.mem_append_right _ hb) z
  · rcases z with z | z
    · obtain ⟨o, q, _⟩ := RE.there _ _ _ s1.re b z
      rw [q]; exact fun z => by cases z
    · exact s1.th b z
  · cases e : g.C f (ws.1 ++ ds.map .val) with
    | no => rw [e] at p; exact p.elim
    | ok w outs =>
      rw [e] at p
      intro v H2 A2 B2 s2 o2
      obtain ⟨s3, re3⟩ := s1.back s2
      obtain ⟨A3, s4, sub⟩ := Sx.backs ws.2 outs _ e1 A1 A2 sm s3 re3
      refine p v H2 A3 B2 s4 (Own.mono w v B2 (fun _ _ q _ => q) (fun _ _ q => q) (fun b z => .inl ?_) o2)
      rcases sub b z with z | z
      · rcases List.mem_append.mp z with z | z
        · exact .inr (.inl z)
        · exact .inl z
      · exact .inr (.inr z)
    | exc c t outs =>
      rw [e] at p
      intro cls d H2 A2 s2 px
      obtain ⟨s3, re3⟩ := s1.back s2
      obtain ⟨A3, s4, sub⟩ := Sx.backs ws.2 outs _ e1 A1 A2 sm s3 re3
      refine p cls d H2 A3 s4 (g.xm c t H2 _ _ cls d (fun b z => ?_) px)
      rcases sub b z with z | z
      · rcases List.mem_append.mp z with z | z
        · exact .inr (.inl z)
        · exact .inl z
      · exact .inr (.inr z)
/-- a def that can be called by name -/
structure FnC (P : Program) (w : World) (K : PySem.W.Frag) (mg : Str → Option Value) (base : Heap) (xr : XR) (C : Calls) (d : Nat) (f : Nat) (x : Str) (io : List Nat) (n : Nat) (dvs : List V) : Prop where
  ex : ∃ fa fd ps ds, FnOk P w K mg base (L2.CX P w) d fa fd ps (spC K xr C f io n) ∧ mg x = some (.ref fa) ∧ PySem.W.keepIn K (.ref fa) = true ∧ Binds K fd ps ds ∧ Vals dvs ds
theorem snd_call {f n k : Nat} {io : List Nat} {ds : List T} {dvs : List V} {p0 : Pos} (F : FnC X.prog X.w X.K X.mg X.base g.xr g.C k f x io n dvs) (hr : Room k X.A) (tk : Takes X g.W) (hg : Gl X x) (hio : ioPos 0 as = io) (hdv : ∀ H av, FzL X.K H av ds dvs) (hn : es.length + 1 + dvs.length = n)
    (ha : PA X (a :: es) (tA X.K g as)) (hvl : ∀ vs σ, VsAt σ as vs → vs.length = es.length + 1) (hdb : (x == ("__debug__" : Str)) = false) (he : starEach (a :: es) X.env = (false, eval a X.env) :: starEach es X.env) (hpl : (backTo pos (starEach es X.env)).any (·.1) = false) :
    PE X (.Call (.Name x p0) (a :: es) [] pos) (tE X.K g (.call f as ds)) := by
  obtain ⟨fa, fd, ps, dd, F, hm, hk, hb, hd⟩ := F.ex
  refine PE.imp (pe_callSD F hr hg hm hk hb hd (fun σ => passAt tk σ) ha hdb he hpl) fun σ H Q ⟨Rt, env, A, rl, p⟩ => ?_
  exact ⟨Rt, env, A, rl, Post.seq p fun ws e1 vs H1 A1 B1 s1 o1 p1 => call_ev hio hdv (by rw [List.length_append, hvl vs σ o1.2.2]; exact hn) s1 o1 p1⟩
end
/-! ### a def keeps its promise -/
section
variable {P : Program} {w : World} {K : PySem.W.Frag} {mg : Str → Option Value} {base : Heap} {x qual : Str} {params : Arguments} {body : List Stmt} {scope : Scope} {dvs : List V} {kws : List (Str × V)} {f : Addr} {fd : FuncData}
/-- the wish of a def's body -/
def gOf (G : Nat → Option T) (C : Calls) (xr : XR) (xm : ∀ c t H (av av' : Addr → Prop) cls d, (∀ b, av' b → av b) → xr c t H av cls d → xr c t H av' cls d) (E : XK) : Cfg := ⟨G, C, xr, fun cls d _ H => E cls d H, xm⟩
/-- the promise of a def, told of its body -/
theorem sp_body {G : Nat → Option T} {tab : Nat → Option FD} {xr : XR} {xm : ∀ c t H (av av' : Addr → Prop) cls d, (∀ b, av' b → av b) → xr c t H av cls d → xr c t H av' cls d} {N : List Str} {d i n : Nat} {fd0 : FD} {vs : List V} {H : Hp} {Q : VK} {E : XK}
    (ht : tab i = some fd0) (hnp : fd0.np = n) (hns : fd0.ns = N.length) (hnd : fd0.io.Nodup) (hio : ∀ j ∈ fd0.io, j < fd0.np) (h : spC K xr (callN G tab (d + 1)) i fd0.io n vs H Q E) :
    tSs K (gOf G (callN G tab d) xr xm E) fd0.io fd0.body { nx := fun _ H' => Q .non H', rt := Q } (L2.start N vs) H := by
  obtain ⟨hl, Rt, ws, A0, rl, h⟩ := h
  have h' : (match (if ws.length = fd0.np then (match evSs G (callN G tab d) fd0.body (ws.map some ++ List.replicate (fd0.ns - fd0.np) none) with
      | .ok .nx env => CR.ok (.val .non) (outE env fd0.io)
      | .ok (.rt w) env => .ok w (outE env fd0.io)
      | .ok _ _ => .no
      | .exc c t env => .exc c t (outE env fd0.io)
      | .no => .no) else .no) with
    | .ok w outs => ∀ v H' A' B, Sx K Rt (fd0.io.map fun j => vs[j]?) H A0 H' outs A' B → Own K H' (Av (A' ++ B) Rt) w v B → Q v H'
    | .exc c t outs => ∀ cls d H' A', Sx K Rt (fd0.io.map fun j => vs[j]?) H A0 H' outs A' [] → xr c t H' (Av (A' ++ []) Rt) cls d → E cls d H'
    | .no => False) := by
    have e : callN G tab (d + 1) i ws = (if ws.length = fd0.np then (match evSs G (callN G tab d) fd0.body (ws.map some ++ List.replicate (fd0.ns - fd0.np) none) with
      | .ok .nx env => CR.ok (.val .non) (outE env fd0.io)
      | .ok (.rt w) env => .ok w (outE env fd0.io)
      | .ok _ _ => .no
      | .exc c t env => .exc c t (outE env fd0.io)
      | .no => .no) else .no) := by
      show (match tab i with | none => CR.no | some fd => _) = _
      rw [ht] <;> rfl
    rw [e] at h
    exact h
  have wl : ws.length = fd0.np := by
    by_cases c : ws.length = fd0.np
    · exact c
    · rw [if_neg c] at h'; exact h'.elim
  rw [if_pos wl] at h'
  have vl : vs.length = fd0.np := hl.trans hnp.symm
  have st : L2.start N vs = vs.map some ++ List.replicate (fd0.ns - fd0.np) none := by
    unfold L2.start
    rw [vl, hns]
  have rl2 : Rl K Rt H (L2.start N vs) (ws.map some ++ List.replicate (fd0.ns - fd0.np) none) A0 := ⟨rl.nd, rl.rt, rl.th, by rw [st]; exact RE.nones _ _ _ _ rl.re⟩
  have pick : ∀ {σ' : St} {H' : Hp} {env : Env} {A' B : List Addr}, Kp fd0.io (L2.start N vs) σ' → Sx K Rt σ' H A0 H' env A' B → ∃ A2, Sx K Rt (fd0.io.map fun j => vs[j]?) H A0 H' (outE env fd0.io) A2 B ∧ ∀ b, Av (A2 ++ B) Rt b → Av (A' ++ B) Rt b := fun {σ' H' env A' B} kp sx => by
    have il : ∀ j ∈ fd0.io, j < env.length := fun j hj => by
      rw [RE.len _ _ _ sx.re, kp.1, st, List.length_append, List.length_map, vl]
      have := hio j hj
      omega
    obtain ⟨A2, c, re⟩ := RE.pick fd0.io env A' hnd il sx.re
    have cnt : ∀ b, (A2 ++ B).count b ≤ (A' ++ B).count b := fun b => by
      have := c b
      simp only [List.count_append]
      omega
    have sub : ∀ b ∈ A2 ++ B, b ∈ A' ++ B := fun b hb => List.count_pos_iff.mp (Nat.lt_of_lt_of_le (List.count_pos_iff.mpr hb) (cnt b))
    have suba : ∀ b, Av (A2 ++ B) Rt b → Av (A' ++ B) Rt b := fun b z => z.imp (sub b) id
    have es : (fd0.io.map fun j => (σ'[j]?).getD none) = fd0.io.map fun j => vs[j]? := List.map_congr_left fun j hj => by
      have jl : j < vs.length := by rw [vl]; exact hio j hj
      rw [kp.2 j hj, st, List.getElem?_append_left (by rw [List.length_map]; exact jl), List.getElem?_map, List.getElem?_eq_getElem jl]
      rfl
    rw [es] at re
    exact ⟨A2, ⟨sx.go.sub sub, List.nodup_iff_count.mpr fun b => Nat.le_trans (cnt b) (List.nodup_iff_count.mp sx.nd b), fun b hb => sx.rt b (sub b hb), sx.th, sx.bth, RE.mono _ _ _ (fun _ _ q _ => q) (fun _ _ q => q) (fun b z => .inl (suba b z)) re⟩, suba⟩
  refine ⟨Rt, _, A0, rl2, ?_⟩
  show PostS K _ fd0.io Rt (L2.start N vs) H A0 (evSs G (callN G tab d) fd0.body _) _
  cases e : evSs G (callN G tab d) fd0.body (ws.map some ++ List.replicate (fd0.ns - fd0.np) none) with
  | no => rw [e] at h'; exact h'.elim
  | exc c t env =>
    rw [e] at h'
    intro cls dd σ' H' A' kp sx px
    obtain ⟨A2, s2, sub⟩ := pick kp sx
    exact h' cls dd H' A2 s2 (xm c t H' _ _ cls dd sub px)
  | ok r env =>
    rw [e] at h'
    cases r with
    | nx =>
      intro σ' H' A' kp sx
      obtain ⟨A2, s2, sub⟩ := pick kp sx
      exact h' .non H' A2 [] s2 ⟨rfl, rfl⟩
    | rt w =>
      intro v σ' H' A' B kp sx ow
      obtain ⟨A2, s2, sub⟩ := pick kp sx
      exact h' v H' A2 B s2 (Own.mono w v B (fun _ _ q _ => q) (fun _ _ q => q) (fun b z => .inl (sub b z)) ow)
    | bk => exact h'.elim
    | ct => exact h'.elim
theorem fn_succ {G : Nat → Option T} {tab : Nat → Option FD} {xr : XR} {xm : ∀ c t H (av av' : Addr → Prop) cls d, (∀ b, av' b → av b) → xr c t H av cls d → xr c t H av' cls d} {N ps : List Str} {d i k : Nat} {fd0 : FD} (F : FunD K x qual params body scope dvs kws f fd) (S : FnScope N ps scope)
    (ht : tab i = some fd0) (hnp : fd0.np = ps.length) (hns : fd0.ns = N.length) (hnd : fd0.io.Nodup) (hio : ∀ j ∈ fd0.io, j < fd0.np)
    (hb : ∀ (cdv : Value) (A : Around) (outer : List PySem.Env) (s : Shared) (H : Hp) (E : XK), Room k (A.deeper (PyProof.Rows.envOfC qual scope s.heap.objs.size f cdv)) →
      PSs (cxOf (L2.CX P w) P w K mg base N qual scope f cdv A outer s H E) body (tSs K (gOf G (callN G tab d) xr xm E) fd0.io fd0.body)) :
    FnOk P w K mg base (L2.CX P w) (k + 1) f fd ps (spC K xr (callN G tab (d + 1)) i fd0.io ps.length) := by
  refine F.ok S (fun vs H Q E h => h.1) fun cdv A outer s H vs Q E hr h => ⟨_, hb cdv A outer s H E hr, ?_⟩
  exact sp_body ht hnp hns hnd hio h
theorem fn_zero {G : Nat → Option T} {tab : Nat → Option FD} {xr : XR} {CX : CXT} {io : List Nat} {n i k : Nat} {ps : List Str} (hn : n = ps.length) : FnOk P w K mg base CX k f fd ps (spC K xr (callN G tab 0) i io n) :=
  ⟨fun vs H Q E h => h.1.trans hn, fun A outer s H args us vs Q E hr he hb hv hs => by
    obtain ⟨_, _, _, _, _, h⟩ := hs
    exact h.elim⟩
end
end Ev
/-! EvS: sets that are read at once: len and sorted of a set comprehension, of set(list). -/
namespace Ev
open PySem L2
/-- the empty set as the model lays it -/
abbrev setNil (w : World) : Obj := { cls := .type "set", dict := none, data := .set #[] 0 (.fresh 0 0 (!w.params.followText "set-order")) }
section
variable {X : Cx}
/-- a set comprehension over any kind of set: O0 the empty one, rA how an item is put in -/
def tSg (O0 : Addr → HO) (rA : V → List V → Hp → VK → Prop) (wi : TI) (g : TG) (tt : TT) (te : TE) (vs : List Nat) : TE := fun σ H Q => wi σ H fun J H1 => ∀ D, H1 D = none → ∃ W : Nat → Nat → Hp → Prop, (∃ m, W 0 m (upd H1 D (O0 D))) ∧ ∀ i m H, W i m H →
  (J.stop i H ∧ Q (.ref D) H) ∨ (J.go i H ∧ ∃ Nx : Hp → Prop, (∀ H', Nx H' → ∃ m', m' < m ∧ W (i + 1) m' H') ∧ ∀ x H', J.yld i H x H' → g x (L2.wipe σ vs) H' fun σ2 H2 => L2.wipe σ2 vs = L2.wipe σ vs ∧ tt σ2 H2 fun b H3 =>
    if b = true then te σ2 H3 fun y H4 => rA (.ref D) [y] H4 (fun _ H5 => Nx H5) else Nx H3)
theorem pe_sg {O0 : Addr → HO} {rA : V → List V → Hp → VK → Prop} {elt tg iter : Expr} {ifs : List Expr} {scope : Scope} {own : List (Str × Nat)} {pos : Pos} {wi : TI} {g : TG} {tt : TT} {te : TE}
    (hO : ∀ (H : Hp) (h : Heap), ObjOk X.prog X.w H (h.push (setNil X.w)) h.objs.size (O0 h.objs.size)) (hA : ∀ Y : Cx, Y.prog = X.prog → Y.w = X.w → MtR Y "set.add" rA)
    (hc : X.calm = true) (hN : X.N.Nodup) (hi : PI X tg iter wi) (ok : BlkOk X.N X.env.scope scope own)
    (hg : ∀ (s : Shared) (H : Hp) (C : Addr) (cl : List (Str × Addr)) (fp : List Addr), PG (X.blk s H scope (compEnvC scope cl C X.env) fp) tg g)
    (ht : ∀ (s : Shared) (H : Hp) (C : Addr) (cl : List (Str × Addr)) (fp : List Addr), PTs (X.blk s H scope (compEnvC scope cl C X.env) fp) ifs tt)
    (he : ∀ (s : Shared) (H : Hp) (C : Addr) (cl : List (Str × Addr)) (fp : List Addr), PE (X.blk s H scope (compEnvC scope cl C X.env) fp) elt te) (hs : ∀ x, foldedSetIterable iter X.env x = pure x) :
    PE X (.SetComp elt [⟨tg, iter, ifs, 0⟩] scope pos) (tSg O0 rA wi g tt te (own.map (·.2))) := by
  refine ⟨fun pins s σ H Q I hq => ?_⟩
  rw [PpSet.eval_SetComp]
  have clo : ∀ y ∈ scope.names, y.2 = .free → ∃ c, X.env.cells.lookup y.1 = some c := fun y hy e => (ok.free y hy e).elim (fun k => I.ok.has _ (.inl k)) fun k => I.ok.has _ (.inr k)
  refine wpAny_comprehension_free (use := none) rfl hs (closure_ok clo) ok.kind (fun y hy e => by rw [ok.uniq y hy, e]) (thn (hi.run pins s σ H _ I hq) fun _ _ hx => thn hx fun _ sa ha => ?_)
  obtain ⟨it, fp, tn, J, Ha, e, Ia, T, sta, fa, q⟩ := ha
  subst e
  refine PpSet.newSet_ok (newEnv_comp ?_)
  generalize hD : sa.heap.objs.size = D
  have freeD : Ha D = none := Ia.hok.fresh (Nat.le_of_eq hD)
  obtain ⟨W, ⟨m0, w0⟩, turn⟩ := q D freeD
  generalize esb : ({ sa with heap := sa.heap.push (setNil X.w) } : Shared) = sb
  have Ib : Inv X pins σ (upd Ha D (O0 D)) sb := by
    rw [← esb]
    refine Ia.laid (t' := sa.toks) (fun b o e => Heap.get?_push_of_some _ e) (Nat.le_of_eq hD) ?_
    rw [← hD]
    exact hO _ _
  have hb : sb.heap = sa.heap.push (setNil X.w) := by rw [← esb]
  have below : ∀ b ∈ fp, b < sa.heap.objs.size := fun b hb => (T.obj _ _ sta b hb).elim fun _ e => Heap.lt_size e.1
  have fb : ∀ b ∈ fp, FpOk X pins (upd Ha D (O0 D)) b ∧ b < sb.heap.objs.size := fun b hbf => by
    have lt := below b hbf
    refine ⟨⟨(upd_ne (by rw [← hD]; exact Nat.ne_of_lt lt)).trans (fa b hbf).1, (fa b hbf).2⟩, ?_⟩
    rw [hb, Heap.size_push]
    exact Nat.lt_succ_of_lt lt
  have stb : tn 0 sb.heap := T.keep _ _ _ sta fun b _ o e => by
    rw [hb]
    exact Heap.get?_push_of_some _ e
  have Ic := block_start Ib ok hN fb
  have pg := hg sb (upd Ha D (O0 D)) sb.heap.objs.size (cellsFrom (sb.heap.objs.size + 1) scope.names (cloFrom X.env.cells scope.names [])) fp
  have pt := ht sb (upd Ha D (O0 D)) sb.heap.objs.size (cellsFrom (sb.heap.objs.size + 1) scope.names (cloFrom X.env.cells scope.names [])) fp
  have pe := he sb (upd Ha D (O0 D)) sb.heap.objs.size (cellsFrom (sb.heap.objs.size + 1) scope.names (cloFrom X.env.cells scope.names [])) fp
  show codeAny _ _ (.compStart (.SetComp elt [⟨tg, iter, ifs, 0⟩] scope pos) 0 (.ref it) (.ref D) (compEnvC scope (cellsFrom (sb.heap.objs.size + 1) scope.names (cloFrom X.env.cells scope.names [])) sb.heap.objs.size X.env))
    (compPost (model X.prog X.w) X.A X.xe none (EP X pins σ Q) (.ref D) sb.heap.objs.size) { sb with heap := pushCells (sb.heap.push { cls := .type "dict", data := .dict #[] }) scope.names }
  have nfp : ∀ b ∈ fp, (upd Ha D (O0 D)) b = none := fun b h => (fb b h).1.1
  generalize hce : compEnvC scope (cellsFrom (sb.heap.objs.size + 1) scope.names (cloFrom X.env.cells scope.names [])) sb.heap.objs.size X.env = ce at Ic pg pt pe ⊢
  have cL : ce.locals = sb.heap.objs.size := by
    subst hce
    rfl
  generalize hHb : upd Ha D (O0 D) = Hb at Ib Ic pg pt pe w0 nfp fb
  generalize hsc : ({ sb with heap := pushCells (sb.heap.push { cls := .type "dict", data := .dict #[] }) scope.names } : Shared) = sc at Ic ⊢
  have stc : tn 0 sc.heap := T.keep _ _ _ stb fun b _ o e => by
    rw [← hsc]
    exact pushCells_keeps _ _ _ _ (Heap.get?_push_of_some _ e)
  have stat : ∀ {σ' : L2.St} {H' : Hp} {s' : Shared}, Inv (X.blk sb Hb scope ce fp) [] σ' H' s' → (∀ b ∈ fp, H' b = none) → ∀ b ∈ fp, FpOk (X.blk sb Hb scope ce fp) [] H' b := fun {σ' H' s'} J' hn b hb' =>
    ⟨hn b hb', (J'.ok.exf b hb').1, J'.ok.exfs b hb', .inl hb', fun x c e => (J'.ok.exf b hb').2 x c e, fun p hp => absurd (show p ∈ ([] : List (Addr × Obj)) ++ [] from hp) (by simp)⟩
  have loop : codeAny (model X.prog X.w) X.A (.compLoop (.SetComp elt [⟨tg, iter, ifs, 0⟩] scope pos) 0 (.ref it) (.ref D) ce) (compPost (model X.prog X.w) X.A X.xe none (EP X pins σ Q) (.ref D) sb.heap.objs.size) sc := by
    refine PpSet.compLoopS_any (fun n s' => ∃ i H', Inv (X.blk sb Hb scope ce fp) [] (L2.wipe σ (own.map (·.2))) H' s' ∧ tn i s'.heap ∧ (∀ b ∈ fp, H' b = none) ∧ W i n H') ?_ m0 ⟨0, Hb, Ic, stc, nfp, w0⟩
    rintro n sd ⟨i, Hd, Id, std, nd, wd⟩
    rcases turn i n Hd wd with ⟨stop, qq⟩ | ⟨go, Nx, hNx, step⟩
    · refine thnF (T.done (X.blk sb Hb scope ce fp) rfl rfl rfl hc i [] sd _ Hd (fun _ _ => False) Id (stat Id nd) std stop) fun r se ⟨hr, Ie⟩ => ?_
      subst hr
      have If : Inv X pins σ Hd se := Ib.call' (ch := fp) Ie.os Ie.base Ie.hok Ie.bare fun b h => ⟨(fb b h).1.2.2.2.1, (fb b h).1.2.1, (fb b h).1.2.2.2.2.1, (fb b h).1.2.2.2.2.2⟩
      have nC : Hd sb.heap.objs.size = none := cL ▸ (show Hd ce.locals = none from Ie.free)
      obtain ⟨m, hn, _⟩ := Ie.loc
      have hn' : se.heap.Ns sb.heap.objs.size m := cL ▸ (show se.heap.Ns ce.locals m from hn)
      obtain ⟨f0, f1, f2, f3, f4, f5⟩ := Ib.fpOk (Nat.le_refl _) nC
      exact ⟨m, hn', fun h'' sbt => ⟨.ref D, Hd, If.turned (t' := se.toks) (fun b o hb e => (sbt.2 b hb).trans e) f0 f1 f3 f4 f5, rfl, qq⟩⟩
    · refine thnF (T.item (X.blk sb Hb scope ce fp) rfl rfl rfl hc i [] sd _ Hd (fun _ _ => False) Id (stat Id nd) std go) fun r se ⟨u, hr, he'⟩ => ?_
      subst hr
      refine thnF he' fun _ sf ⟨x, Hf, If, rf, yf, stf, nf⟩ => ?_
      refine thnF (pg.run _ sf _ Hf x u _ (If.pinned (stat If nf) (T.obj _ _ stf)) rf (step x Hf yf)) fun _ sg ⟨σg, Hg, Ig, hwg, qg⟩ => ?_
      refine thnF (pt.run _ sg σg Hg _ Ig qg) fun b sh ⟨Hh, Ih, qh⟩ => ?_
      have fin : ∀ {s' : Shared} {H' : Hp}, Inv (X.blk sb Hb scope ce fp) ([] ++ pinsAt fp sf.heap) σg H' s' → Nx H' → ∃ m, m < n ∧ ∃ i H', Inv (X.blk sb Hb scope ce fp) [] (L2.wipe σ (own.map (·.2))) H' s' ∧ tn i s'.heap ∧ (∀ b ∈ fp, H' b = none) ∧ W i m H' := fun {s' H'} J' nx => by
        obtain ⟨m', hm, w'⟩ := hNx H' nx
        have keep : ∀ b ∈ fp, ∀ o, sf.heap.get? b = some o → s'.heap.get? b = some o ∧ H' b = none := fun b hb' o e => by
          have z := J'.pin (b, o) (List.mem_append_right _ (List.mem_append_right _ (mem_pinsAt hb' e)))
          exact ⟨z.1, z.2.1⟩
        refine ⟨m', hm, i + 1, H', (J'.unpinned (pins := [])).weak (by rw [← hwg, wipe_length]) (fun j v e => (wipe_some (by rw [← hwg] at e; exact e)).1), T.keep _ _ _ stf fun b hb' o e => (keep b hb' o e).1, fun b hb' => ?_, w'⟩
        obtain ⟨o, e, _⟩ := T.obj _ _ stf b hb'
        exact (keep b hb' o e).2
      cases b with
      | false =>
        simp only [Bool.false_eq_true, if_false] at qh ⊢
        exact fin Ih qh
      | true =>
        simp only [if_true] at qh ⊢
        refine thnF (pe.run _ sh σg Hh _ Ih qh) fun z si ⟨yv, Hi, Ii, ri, ra⟩ => ?_
        refine thnF (hA (X.blk sb Hb scope ce fp) rfl rfl _ si σg Hi (.ref D) [yv] (.ref D) [z] _ Ii rfl (.cons ri .nil) ra) fun _ sj ⟨_, Hj, Ij, _, nx⟩ => fin Ij nx
  exact PpSet.codeAny_compStart_set loop (T.self X.A 0 _ _ _ stc loop)
end
end Ev
/-! EvT: set(list of ints). -/
namespace Ev
open PySem PySem.Spec PyProof.Rows
section
variable {P : Program} {w : World} {A : Around} {E : Value → Shared → Prop} {s : Shared}
theorem call_setL {l : Addr} {items : Array Value} (ns : List Int) {Q : Value → Shared → Prop} (hh : A.handled = none) (hl : s.heap.IsList l items) (hit : IntsAre items.toList ns) (hb : ns.length + 1 < scanBound)
    (h : ∀ (h' : Heap) (tk c : Nat), L2.SetR w h' s.heap.objs.size (fun j => decide (j ∈ ns)) c → (∀ b o, s.heap.get? b = some o → h'.get? b = some o) → Q (.ref s.heap.objs.size) { s with heap := h', toks := tk }) :
    wpAny (model P w) A (call (.type "set") [.ref l]) Q E s := by
  have size_eq : items.size = ns.length := by
    have z := IntsAre.length hit
    rwa [Array.length_toList] at z
  obtain ⟨cc, rest, mro⟩ := F.called_set.mro
  have made := F.called_set.made
  have sub := F.called_set.sub
  refine wpAny_call (codeAny_of_tree ?_)
  show wpAny _ _ (callAny (.type "set") _) _ _ _
  refine wpAny_pure ⟨Code.quiet_builtin _ (by decide +kernel), codeAny_builtin F.entry_type_call ?_⟩
  rw [Around.under_plain (weight_type_call_type "set" [.ref l] []) rfl]
  have nt := F.called_set.notType
  have cn := F.called_set.canCreate
  have tc := F.typeCall_set_1 (.ref l)
  repeat (any_goals (first | assumption | wp_step))
  refine codeAny_mono (L2.code_set_led1 (.ref l) (E := E) (Q₁ := fun obj sA => obj = .ref s.heap.objs.size ∧ sA = { s with heap := s.heap.push (setNil w) }) ⟨rfl, rfl⟩) fun r sA hr => ?_
  cases r with
  | error e => exact hr
  | ok fl =>
    cases fl with
    | ret obj =>
      obtain ⟨rfl, rfl⟩ := hr
      have atS : (s.heap.push (setNil w)).get? s.heap.objs.size = some (setNil w) := Heap.get?_push_size _ rfl
      have ty : Shared.TypeIs { s with heap := s.heap.push (setNil w) } (.ref s.heap.objs.size) "set" := ⟨_, atS, rfl⟩
      have li := F.called_set.init.lookup
      have bi := F.called_set.init.bind (.ref s.heap.objs.size)
      repeat (any_goals (first | assumption | wp_step))
      refine codeAny_mono (codeAny_call_builtin (R := wants (fun r sB => r = .none ∧ ∃ h' tk c, sB = { s with heap := h', toks := tk } ∧ L2.SetR w h' s.heap.objs.size (fun j => decide (j ∈ ns)) c ∧
          (∀ b o, s.heap.get? b = some o → h'.get? b = some o)) E) F.called_set.init.plain F.entry_set_init (check_set_init_1 ty ?_)) fun rB sB hrB => ?_
      · obtain ⟨ol, atL, cl, nl, dl⟩ := hl
        obtain ⟨ocls, odict, odata, oslots⟩ := ol
        simp only at cl dl
        subst cl dl
        have atL' : (s.heap.push (setNil w)).get? l = some { cls := .type "list", dict := odict, data := .seq items nl, slots := oslots } := Heap.get?_push_of_some _ atL
        have s1 := F.sub_list_set
        have s2 := F.sub_list_frozenset
        have nd : (Value.type "list" == Value.type "dict") = false := by decide
        have isL : (s.heap.push (setNil w)).IsList l items := ⟨_, atL', rfl, nl, rfl⟩
        unfold Builtin.«set.__init__» noKeywords Builtin.Frozenset.updateFrom
        generalize eIter : pyIter = PI
        wp_walk
        subst eIter
        refine wpAny_pyIter_list isL ?_
        refine wpAny_bind (wpAny_runValue ?_)
        have ltL : l < s.heap.objs.size := Heap.lt_size atL
        have calm : A.in1.in1.in1.handled = none := by simp [hh]
        have neI : l ≠ (s.heap.push (setNil w)).objs.size := by
          rw [Heap.size_push]
          exact Nat.ne_of_lt (Nat.lt_succ_of_lt ltL)
        have notIn : s.heap.objs.size ∉ [(s.heap.push (setNil w)).objs.size, l] := by
          rw [Heap.size_push]
          simp only [List.mem_cons, List.not_mem_nil, or_false, not_or]
          exact ⟨Nat.ne_of_lt (Nat.lt_succ_self _), Nat.ne_of_gt ltL⟩
        have val : ∀ (i : Nat) (v : Value), items[i]? = some v → ∃ k t, ns[i]? = some k ∧ v = .int k t := fun i v hv => by
          have hi : i < ns.length := size_eq ▸ (Array.getElem?_eq_some_iff.mp hv).1
          obtain ⟨t, e⟩ := IntsAre.int_at hit i v (by rw [Array.getElem?_toList]; exact hv)
          exact ⟨ns[i], t, List.getElem?_eq_getElem hi, by rw [e, List.getD_eq_getElem?_getD, List.getElem?_eq_getElem hi]; rfl⟩
        refine L2.set_update_ints ((Walks.list calm _ l neI items).toS) s.heap.objs.size notIn ns size_eq hb val (items.size - 0) 0 _ (by omega) (Nat.zero_le _) ⟨⟨_, Heap.get?_push_size _ rfl, rfl, rfl⟩, (isL.push _)⟩ ⟨0, Nat.le_refl 0, L2.setR_new_at (Heap.get?_push_of_some _ atS)⟩ ?_
        intro sC c mv _ R
        obtain ⟨hC, gC, dC, tC, oC⟩ := sC
        obtain rfl : gC = s.gens := mv.gens
        obtain rfl : dC = s.drawn := mv.drawn
        obtain rfl : oC = s.os := mv.os
        refine wpAny_pure ?_
        show wpAny _ _ (ret Value.none) _ _ _
        refine wpAny_pure ⟨rfl, hC, tC, c, rfl, R, fun b o e => ?_⟩
        have lt := Heap.lt_size e
        refine mv.heap b o ?_ (Heap.get?_push_of_some _ (Heap.get?_push_of_some _ e))
        simp only [List.mem_cons, List.not_mem_nil, or_false, not_or, Heap.size_push]
        exact ⟨Nat.ne_of_lt lt, Nat.ne_of_lt (Nat.lt_succ_of_lt lt)⟩
      · cases rB with
        | error e => exact hrB
        | ok flB =>
          cases flB with
          | ret r =>
            obtain ⟨rfl, h', tk, c, rfl, R, kp⟩ := hrB
            repeat (any_goals (first | assumption | wp_step))
            exact h _ _ _ R kp
          | _ => exact hrB.elim
    | _ => exact hr.elim
end
end Ev
namespace Ev
open PySem L2
section
variable {X : Cx}
/-- set(xs) of a list of ints -/
theorem cr_setL (hc : X.calm = true) : CallR X (.type "set") (fun vs H Q => ∃ (a : Addr) (ns : List Int), vs = [V.ref a] ∧ SqL X.K H a (ns.map V.int) ∧ ns.length + 1 < scanBound ∧ ∀ p c, H p = none → Q (.ref p) (upd H p (SetO X.w p (fun j => decide (j ∈ ns)) c))) := by
  intro pins s σ H vs us Q I r h
  obtain ⟨a, ns, rfl, hs, hb, q⟩ := h
  obtain ⟨its, rv, hl, _⟩ := I.list hs
  rw [Vals.ref1 r]
  refine call_setL ns (I.ok.hd hc) hl.isList rv.ints hb fun h' tk c R kp => ?_
  exact ⟨.ref _, upd H s.heap.objs.size (SetO X.w s.heap.objs.size (fun j => decide (j ∈ ns)) c), I.laid (t' := tk) kp (Nat.le_refl _) (setO_new R), rfl, q _ _ (I.hok.fresh (Nat.le_refl _))⟩
/-- len of a set of ints -/
theorem cr_lenSet : CallR X (.builtin "len") (fun vs H Q => ∃ (a : Addr) (S : Int → Bool) (n : Nat), vs = [V.ref a] ∧ H a = some (SetO X.w a S n) ∧ n < scanBound ∧ Q (.int n) H) := by
  intro pins s σ H vs us Q I r h
  obtain ⟨a, S, n, rfl, ha, hn, q⟩ := h
  rw [Vals.ref1 r]
  obtain ⟨o, es, ep, t, ho, hex, hd, _, _, _, _, hf, hz, _⟩ := setO_get I ha
  refine call_len_set ho hex hd hf (by rw [hz]; unfold scanBound at hn; omega) ⟨.int n, H, I.tok _, ⟨_, by rw [hz]⟩, q⟩
end
end Ev
/-! EvU: sets of texts: made by a comprehension, counted, sorted. -/
namespace Ev
open PySem L2 PySem.Spec PyProof.Rows
def txtOf (z : Int × Value) : Str := match z.2 with | .str y _ => y | _ => Str.empty
def GoodS (w : World) (z : Int × Value) : Prop := ∃ y tk, z.2 = Value.str y tk ∧ z.1 = hashStr w y
/-- a set of texts that can be walked: M its members, c how many -/
def TxR (w : World) (hp : Heap) (q : Addr) (M : Str → Bool) (c : Nat) : Prop :=
  ∃ ob xs e tb, hp.get? q = some ob ∧ ob.ExactSet ∧ ob.data = .set xs e tb ∧ (∀ z ∈ xs.toList, GoodS w z) ∧ (xs.toList.map txtOf).Nodup ∧ (∀ y, M y = true ↔ y ∈ xs.toList.map txtOf) ∧
    xs.size < scanBound ∧ tb.fits xs.size = true ∧ xs.size = c ∧ Ris tb.place.toList ∧ (w.params.followText "set-order" = true ∨ tb.led = true)
section
variable {P : Program} {w : World} {hp hp' : Heap} {q : Addr} {M : Str → Bool} {c : Nat}
theorem TxR.at (R : TxR w hp q M c) (k : ∀ u, hp.get? q = some u → hp'.get? q = some u) : TxR w hp' q M c := by
  obtain ⟨ob, xs, e, tb, hq, rest⟩ := R
  exact ⟨ob, xs, e, tb, k ob hq, rest⟩
theorem goodS_elems {l : List (Int × Value)} (gd : ∀ z ∈ l, GoodS w z) : ElemsOf (strKind P w) l := fun z hz => by
  obtain ⟨y, tk, e1, e2⟩ := gd z hz
  exact ⟨⟨y, by rw [e1]; exact strKind_is P w y tk, e2⟩, by rw [e1] <;> rfl⟩
theorem goodS_is {z : Int × Value} (gd : GoodS w z) (y : Str) : (strKind P w).is y z.2 = true ↔ txtOf z = y := by
  obtain ⟨y0, tk, e1, _⟩ := gd
  unfold txtOf
  rw [e1]
  constructor
  · intro h
    obtain ⟨t, e⟩ := Value.isStrOf_shape (show Value.isStrOf y (Value.str y0 tk) = true from h)
    injection e
  · intro h
    have h : y0 = y := h
    rw [h]
    exact strKind_is P w y tk
theorem goodS_mem {l : List (Int × Value)} (gd : ∀ z ∈ l, GoodS w z) (y : Str) : y ∈ l.map txtOf ↔ ∃ z ∈ l, (strKind P w).is y z.2 = true := by
  rw [List.mem_map]
  refine ⟨fun ⟨z, hz, e⟩ => ⟨z, hz, (goodS_is (gd z hz) y).2 e⟩, fun ⟨z, hz, e⟩ => ⟨z, hz, (goodS_is (gd z hz) y).1 e⟩⟩
theorem TxR.setOf (R : TxR w hp q M c) : hp.SetOf (strKind P w) q M c := by
  obtain ⟨ob, xs, e, tb, hq, ex, dt, gd, _, mm, sb, ft, sz, _⟩ := R
  exact ⟨ob, xs, e, tb, hq, ex, dt, goodS_elems gd, fun y => (mm y).trans (goodS_mem gd y), sb, ft, sz⟩
end
section
variable {P : Program} {w : World} {A : Around} {Ex : Value → Shared → Prop} {s : Shared} {q : Addr} {M : Str → Bool} {c : Nat}
theorem tx_tail {gv : Bool → Sem Unit} (hgv : ∀ (b : Bool) (s1 : Shared) (Q' : Unit → Shared → Prop), Q' () s1 → wpAny (model P w) A (gv b) Q' Ex s1)
    {ob : Obj} {xs : Array (Int × Value)} {ep : Nat} {tb : SetTable} (hq : s.heap.get? q = some ob) (ex : ob.ExactSet) (dt : ob.data = .set xs ep tb)
    {ys : Array (Int × Value)} {tc : SetTable} {M' : Str → Bool} (gd : ∀ z ∈ ys.toList, GoodS w z) (nd : (ys.toList.map txtOf).Nodup) (mm : ∀ y, M' y = true ↔ y ∈ ys.toList.map txtOf)
    (sb : ys.size < scanBound) (ft : tc.fits ys.size = true) (rs : Ris tc.place.toList) (ld : w.params.followText "set-order" = true ∨ tc.led = true) {dummy : Bool} {R : Option Bool → Shared → Prop}
    (fin : ∀ hp', Heap.SameBut q s.heap hp' → TxR w hp' q M' ys.size → R (some true) { s with heap := hp' }) :
    wpAny (model P w) A (do
        storeSet q ys tc
        if (!dummy && tc.tooFull) = true then do
            gv (relayAll tc ys (SetTable.grown ys.size)).2.2
            storeSet q (relayAll tc ys (SetTable.grown ys.size)).1 (relayAll tc ys (SetTable.grown ys.size)).2.1
            pure (some true)
          else pure (some true)) R Ex s := by
  refine wpAny_bind (wpAny_storeSet_of hq dt ?_ (fits_of_scanBound sb))
  have hq1 := store_at (es' := ys) (t' := tc) hq dt
  have b1 := Heap.SameBut.update s.heap q (Obj.putSet ys tc)
  split
  · have pm := relayAll_perm tc ys (SetTable.grown ys.size)
    have f3 := relayAll_fits tc ys (SetTable.grown ys.size)
    have r3 := relayAll_ris tc ys (SetTable.grown ys.size)
    have l3 := relayAll_led tc ys (SetTable.grown ys.size)
    generalize relayAll tc ys (SetTable.grown ys.size) = Y at pm f3 r3 l3 ⊢
    obtain ⟨zs, td, gave⟩ := Y
    dsimp only at pm f3 r3 l3 ⊢
    have sz : zs.size = ys.size := by rw [← Array.length_toList, pm.length_eq, Array.length_toList]
    have sb2 : zs.size < scanBound := by rw [sz]; exact sb
    refine wpAny_bind (hgv _ _ _ ?_)
    refine wpAny_bind (wpAny_storeSet_of hq1 rfl ?_ (fits_of_scanBound sb2))
    have hq2 := store_at (es' := zs) (t' := td) hq1 rfl
    refine wpAny_pure (fin _ (b1.trans (Heap.SameBut.update _ q _)) ?_)
    exact ⟨_, zs, _, td, hq2, ex, rfl, fun z hz => gd z (pm.mem_iff.mp hz), (pm.map txtOf).nodup_iff.mpr nd, fun y => (mm y).trans (pm.map txtOf).mem_iff.symm, sb2, f3, sz, r3, ld.imp id fun z => by rw [l3]; exact z⟩
  · exact wpAny_pure (fin _ b1 ⟨_, ys, _, tc, hq1, ex, rfl, gd, nd, mm, sb, ft, rfl, rs, ld⟩)
theorem tx_hashed {y : Str} {tk : Tok} {Q : Bool → Shared → Prop} (R : TxR w s.heap q M c) (room : c + 1 < scanBound)
    (fin : ∀ hp', Heap.SameBut q s.heap hp' → TxR w hp' q (fun j => M j || decide (j = y)) (if M y = true then c else c + 1) → Q (!M y) { s with heap := hp' }) :
    wpAny (model P w) A (setAddHashed q (.str y tk) ((strKind P w).hash y)) Q Ex s := by
  obtain ⟨ob, xs, ep, tb, hq, ex, dt, gd, nd, mm, sb, ft, sz, rs, ld⟩ := R
  have isk : (strKind P w).is y (.str y tk) = true := strKind_is P w y tk
  have scn : (Value.str y tk).scannable = true := rfl
  have els : ElemsOf (strKind P w) xs.toList := goodS_elems gd
  unfold setAddHashed setAddHashedIn
  refine wpAny_holding (wpAny_bind (wpAny_setState_of hq dt ft ?_))
  dsimp only
  rw [byScan_of scn sb els]
  simp only [↓reduceIte]
  unfold setAddByScan
  refine wpAny_bind ?_
  refine wpAny_bind (wpAny_rule ?_)
  refine wpAny_bind (wpAny_setScan_of isk hq dt ft els ?_)
  cases fi : List.findIdx? (fun z => (strKind P w).is y z.2) xs.toList with
  | some j =>
    dsimp only
    obtain ⟨hj, pj, _⟩ := List.findIdx?_eq_some_iff_getElem.mp fi
    have My : M y = true := (mm y).2 ((goodS_mem (P := P) (w := w) gd y).2 ⟨xs.toList[j], List.getElem_mem hj, pj⟩)
    refine wpAny_pure (wpAny_pure ?_)
    have r := fin s.heap (Heap.SameBut.refl q s.heap) ⟨ob, xs, ep, tb, hq, ex, dt, gd, nd, fun i => by
      rw [Bool.or_eq_true, decide_eq_true_eq, ← mm i]
      exact ⟨fun z => z.elim id (fun e => e ▸ My), .inl⟩, sb, ft, by rw [if_pos My]; exact sz, rs, ld⟩
    rw [My] at r
    exact r
  | none =>
    dsimp only
    have ny : y ∉ xs.toList.map txtOf := fun z => by
      obtain ⟨e, he, k⟩ := (goodS_mem (P := P) (w := w) gd y).1 z
      have d := List.findIdx?_eq_none_iff.mp fi e he
      rw [k] at d
      cases d
    have My : M y = false := by
      cases k : M y with
      | false => rfl
      | true => exact absurd ((mm y).1 k) ny
    have gvo : ∀ (b : Bool) {s1 : Shared} {Q' : Unit → Shared → Prop}, Q' () s1 → wpAny (model P w) A (match b with | true => rule "set.scan.the-table-gave-way" | false => pure ()) Q' Ex s1 :=
      fun b s1 Q' k => by cases b <;> first | exact wpAny_pure k | exact wpAny_rule k
    have pm := layNew_perm tb xs ((strKind P w).hash y) (.str y tk)
    have f1 := layNew_fits tb xs ((strKind P w).hash y) (.str y tk)
    have r1 := layNew_ris tb xs ((strKind P w).hash y) (.str y tk) rs
    have l1 := layNew_led tb xs ((strKind P w).hash y) (.str y tk)
    generalize layNew tb xs ((strKind P w).hash y) (.str y tk) = Y at pm f1 r1 l1 ⊢
    obtain ⟨ys, tc, dummy, gave⟩ := Y
    dsimp only at pm f1 r1 l1 ⊢
    rw [Array.toList_push] at pm
    have pc : ys.toList.Perm (((strKind P w).hash y, Value.str y tk) :: xs.toList) := pm.trans (List.perm_append_singleton _ _)
    have pk : (ys.toList.map txtOf).Perm (y :: xs.toList.map txtOf) := pc.map txtOf
    have gd1 : ∀ z ∈ ys.toList, GoodS w z := fun z hz => by
      rcases List.mem_cons.mp (pc.mem_iff.mp hz) with k | k
      · rw [k]; exact ⟨y, tk, rfl, rfl⟩
      · exact gd z k
    have nd1 : (ys.toList.map txtOf).Nodup := pk.nodup_iff.mpr (List.nodup_cons.mpr ⟨ny, nd⟩)
    have mm1 : ∀ i, (M i || decide (i = y)) = true ↔ i ∈ ys.toList.map txtOf := fun i => by
      rw [Bool.or_eq_true, decide_eq_true_eq, mm i, pk.mem_iff, List.mem_cons]
      exact Or.comm
    have sz1 : ys.size = c + 1 := by rw [← Array.length_toList, pc.length_eq, List.length_cons, Array.length_toList, sz]
    have sb1 : ys.size < scanBound := by rw [sz1]; exact room
    have ld1 : w.params.followText "set-order" = true ∨ tc.led = true := ld.imp id fun z => by rw [l1]; exact z
    have fin1 : ∀ hp', Heap.SameBut q s.heap hp' → TxR w hp' q (fun j => M j || decide (j = y)) ys.size → Q true { s with heap := hp' } := fun hp' b r => by
      have k := fin hp' b
      rw [My] at k
      rw [sz1] at r
      exact k r
    refine wpAny_bind (gvo _ ?_)
    split
    · refine wpAny_bind ?_
      rw [hashByValue_scannable 8 scn]
      refine wpAny_pure ?_
      refine tx_tail ?_ hq ex dt gd1 nd1 mm1 sb1 ?_ ?_ ?_ ?_
      · intro b s1 Q' k; cases b <;> first | exact wpAny_pure k | exact wpAny_rule k
      · first | (split <;> first | exact f1 | exact SetTable.fits_plain_off f1) | exact f1
      · first | (split <;> exact r1) | exact r1
      · first | (split <;> exact ld1) | exact ld1
      · intro hp' b r; dsimp only; exact wpAny_pure (fin1 hp' b r)
    · refine wpAny_bind (wpAny_pure ?_)
      simp only [↓reduceIte]
      refine tx_tail ?_ hq ex dt gd1 nd1 mm1 sb1 f1 r1 ld1 ?_
      · intro b s1 Q' k; cases b <;> first | exact wpAny_pure k | exact wpAny_rule k
      · intro hp' b r; dsimp only; exact wpAny_pure (fin1 hp' b r)
theorem tx_add {y : Str} {tk : Tok} {Q : Value → Shared → Prop} (R : TxR w s.heap q M c) (room : c + 1 < scanBound)
    (fin : ∀ hp' t', Heap.SameBut q s.heap hp' → TxR w hp' q (fun j => M j || decide (j = y)) (if M y = true then c else c + 1) → Q .none { s with heap := hp', toks := t' }) :
    wpAny (model P w) A (call (.builtin "set.add") [.ref q, .str y tk]) Q Ex s := by
  have so : s.heap.SetOf (strKind P w) q M c := R.setOf
  refine wpAny_call_entry F.slot_set_add so.typeIs F.entry_set_add ?_ (F.args_set_add_2 _ _)
  unfold Builtin.«set.add» Builtin.Frozenset.oneOther
  simp only [List.isEmpty_nil, bind_assoc]
  unfold Builtin.Frozenset.addrOf setAdd
  refine wpAny_bind (wpAny_pure ?_)
  try dsimp only
  refine wpAny_bind (wpAny_pure ?_)
  try dsimp only
  refine wpAny_bind (wpAny_holding ?_)
  refine wpAny_bind ((strKind P w).pyHash (strKind_is P w y tk) ?_)
  refine tx_hashed (s := { s with toks := s.toks + 1 }) R room fun hp' b r => ?_
  show wpAny _ _ (ret Value.none) _ _ _
  exact wpAny_pure ⟨_, rfl, fin hp' _ b r⟩
theorem tx_sorted {Q : Value → Shared → Prop} (R : TxR w s.heap q M c) (hd : A.handled = none)
    (fin : ∀ s' p (out : Array Value) (n : Nat) (ys : List Str), (∀ b o, s.heap.get? b = some o → s'.heap.get? b = some o) → s'.gens = s.gens → s'.os = s.os → s.heap.objs.size ≤ p →
      s'.heap.get? p = some (seqObj "list" out n) → StrsAre out.toList ys → sortedS ys = true → ys.Nodup → (∀ k, k ∈ ys ↔ M k = true) → ys.length = c → Q (.ref p) s') :
    wpAny (model P w) A (call (.builtin "sorted") [.ref q]) Q Ex s := by
  obtain ⟨ob, xs, ep, tb, hq, ex, dt, gd, nd, mm, sb, ft, sz, rs, ld⟩ := R
  refine Calls.call_function_entry kind_sorted plain_sorted entry_sorted (args_sorted1 _) ?_
  unfold Builtin.«sorted»
  refine wpAny_bind (m := checkCount "sorted" 1 1 _) (wpAny_pure ?_)
  refine wpAny_bind (collect_set (A := A.in1) hd ⟨ob, hq, ex.1, dt⟩ ft sb rs ld fun s1 vs k1 z1 g1 o1 pm => ?_)
  have vl : vs.length = c := by rw [pm.length_eq, List.length_map, Array.length_toList]; exact sz
  have all : ∀ v ∈ vs, ∃ x t, v = Value.str x t := fun v hv => by
    obtain ⟨e, he, k⟩ := List.mem_map.mp (pm.mem_iff.mp hv)
    obtain ⟨y, tk, e1, _⟩ := gd e he
    exact ⟨y, tk, by rw [← k]; exact e1⟩
  have sa : StrsAre vs (vs.map strOf) := strsAre_map vs all
  have es : ∀ e ∈ xs.toList, strOf e.2 = txtOf e := fun e he => by
    obtain ⟨y, tk, e1, _⟩ := gd e he
    unfold txtOf
    rw [e1]
    rfl
  have pk : (vs.map strOf).Perm (xs.toList.map txtOf) := by
    have k := pm.map strOf
    rw [List.map_map, List.map_congr_left (f := strOf ∘ fun x : Int × Value => x.2) (g := txtOf) es] at k
    exact k
  have le : vs.length ≤ sizeLine := by rw [vl, ← sz]; exact fits_of_scanBound sb
  refine wpAny_bind (wpAny_newList ?_ le)
  have hL : (s1.heap.push (seqObj "list" vs.toArray 0)).get? s1.heap.objs.size = some (seqObj "list" vs.toArray 0) := Heap.get?_push_size _ rfl
  refine wpAny_bind (wpAny_holding (wpAny_call_entry slot_list_sort ⟨_, hL, rfl⟩ entry_list_sort
    (list_sort_treeKAny strKind_oneLt hL sa.keysOf (fun v₁ v₂ rest e => keyKind_strs (by rw [← e]; exact sa)) le fun st' hp hs => ⟨_, rfl, ?_⟩) (args_list_sort _)))
  obtain ⟨ys, a1, a2, a3⟩ := sorted_out_str sa hp hs
  obtain ⟨n, hn⟩ := sortedHeap_at (vs := vs) (out := (arrOf st').map (·.2)) hL
  have pn : ys.Perm (xs.toList.map txtOf) := a2.trans pk
  refine wpAny_pure ⟨_, rfl, fin _ s1.heap.objs.size _ n ys (fun b u e => ?_) g1 o1 z1 hn a1 a3 (pn.nodup_iff.mpr nd) (fun k => by rw [pn.mem_iff, ← mm k]) ?_⟩
  · have k := k1 b u e
    have lt := Heap.lt_size k
    show (sortedHeap (s1.heap.push (seqObj "list" vs.toArray 0)) s1.heap.objs.size vs _).get? b = some u
    rw [sortedHeap_old (Nat.ne_of_lt lt) (by rw [size_push']; exact Nat.lt_succ_of_lt lt)]
    exact Heap.get?_push_of_some _ k
  · rw [pn.length_eq, List.length_map, Array.length_toList]; exact sz
end
/-! ### over the layer -/
def TxO (w : World) (a : Addr) (M : Str → Bool) (c : Nat) : HO := .ext fun h => TxR w h a M c
section
variable {X : Cx}
theorem txO_new {w : World} {P : Program} {H : Hp} {h : Heap} {a : Addr} {M : Str → Bool} {c : Nat} (R : TxR w h a M c) : ObjOk P w H h a (TxO w a M c) := by
  have ⟨o, _, _, _, ho, _⟩ := R
  exact ⟨R, ⟨o, ho⟩, fun h1 h2 p k => TxR.at p k⟩
theorem txO_get {pins : List (Addr × Obj)} {σ : L2.St} {H : Hp} {s : Shared} {a : Addr} {M : Str → Bool} {c : Nat} (I : L2.Inv X pins σ H s) (ha : H a = some (TxO X.w a M c)) : TxR X.w s.heap a M c := (I.hok a _ ha).1
theorem txO_nil {P : Program} {w : World} (H : Hp) (h : Heap) : ObjOk P w H (h.push (setNil w)) h.objs.size (TxO w h.objs.size (fun _ => false) 0) :=
  txO_new ⟨_, #[], 0, _, Heap.get?_push_size _ rfl, ⟨rfl, rfl, rfl⟩, rfl, (fun e he => by simp at he), (by simp), (fun k => by simp), (by decide), (by rfl), rfl, List.Pairwise.nil, by
    show _ ∨ (!w.params.followText "set-order") = true
    cases w.params.followText "set-order"
    · exact .inr rfl
    · exact .inl rfl⟩
def rTxAdd (w : World) : V → List V → Hp → VK → Prop := fun x xs H Q => ∃ (a : Addr) (y : Str) (M : Str → Bool) (c : Nat), x = V.ref a ∧ xs = [V.str y] ∧ H a = some (TxO w a M c) ∧ c + 1 < scanBound ∧
  Q .non (upd H a (TxO w a (fun j => M j || decide (j = y)) (if M y = true then c else c + 1)))
theorem mt_txadd : MtR X "set.add" (rTxAdd X.w) := by
  intro pins s σ H x xs v us Q I rx rxs h
  obtain ⟨a, y, M, c, rfl, rfl, ha, room, k⟩ := h
  cases rx
  cases rxs with
  | cons ry rt =>
    cases rt
    obtain ⟨tk, rfl⟩ := ry
    refine tx_add (txO_get I ha) room fun h' t' b new => ?_
    have he : ∃ u, h'.get? a = some u := by
      have ⟨o, _, _, _, ho, _⟩ := new
      exact ⟨o, ho⟩
    exact ⟨.non, upd H a (TxO X.w a (fun j => M j || decide (j = y)) (if M y = true then c else c + 1)), I.write (e := a) (t' := t') (by rw [ha]; trivial) (.inl rfl) (fun d u hd hu => (b.2 d hd).trans hu) he (txO_new new), rfl, k⟩
def rTxSorted (w : World) : List V → Hp → VK → Prop := fun vs H Q => ∃ (a : Addr) (M : Str → Bool) (c : Nat), vs = [V.ref a] ∧ H a = some (TxO w a M c) ∧
  ∀ (ys : List Str) (p : Addr), sortedS ys = true → ys.Nodup → (∀ k, k ∈ ys ↔ M k = true) → ys.length = c → H p = none → Q (.ref p) (upd H p (.lst (ys.map V.str)))
theorem cr_txsorted (hc : X.calm = true) : CallR X (.builtin "sorted") (rTxSorted X.w) := by
  intro pins s σ H vs us Q I r h
  obtain ⟨a, M, c, rfl, ha, k⟩ := h
  have R := txO_get I ha
  rw [Vals.ref1 r]
  have cb : c ≤ sizeLine := by
    have ⟨_, xs, _, _, _, _, _, _, _, _, sb, _, sz, _⟩ := R
    rw [← sz]
    exact fits_of_scanBound sb
  refine tx_sorted R (I.ok.hd hc) fun s' p out n ys ks g o hp hg hi hs hn hm hl => ?_
  have hlen : (ys.map V.str).length ≤ sizeLine := by rw [List.length_map, hl]; exact cb
  have hn0 : H p = none := I.hok.fresh hp
  have J : L2.Inv X pins σ (upd H p (.lst (ys.map V.str))) { s with heap := s'.heap, gens := s'.gens, drawn := s'.drawn, toks := s'.toks } :=
    I.call (ch := []) (Un.laid ks hp hn0) (I.hok.laid ks hp ⟨hlen, out.toList, n, vals_of_strs hi, hg⟩) (by rw [g]; exact I.bare) (fun _ z => nomatch z)
  have e : s' = { s with heap := s'.heap, gens := s'.gens, drawn := s'.drawn, toks := s'.toks } := by
    cases s'
    cases s
    cases o
    rfl
  rw [e]
  exact ⟨.ref p, _, J, rfl, k ys p hs hn hm hl hn0⟩
end
end Ev
/-! EvV: sorted of a list or tuple of ints or texts, of any length. -/
namespace Ev
open PySem L2 PySem.Spec PyProof.Rows
/-! ### texts in order -/
theorem leS_iff (a b : Str) : leS a b = true ↔ a.cps.toList ≤ b.cps.toList := by
  unfold leS
  rw [ltCps_eq]
  simp
theorem leS_total (a b : Str) : leS a b = true ∨ leS b a = true := by
  rw [leS_iff, leS_iff]
  exact List.le_total _ _
theorem leS_trans {a b c : Str} (h1 : leS a b = true) (h2 : leS b c = true) : leS a c = true := by
  rw [leS_iff] at *
  exact List.le_trans h1 h2
theorem leS_anti {a b : Str} (h1 : leS a b = true) (h2 : leS b a = true) : a = b := by
  rw [leS_iff] at *
  have z := List.le_antisymm h1 h2
  cases a; cases b
  simp only [Str.mk.injEq]
  exact Array.toList_inj.mp z
theorem insS_perm (x : Str) : ∀ l : List Str, (insS x l).Perm (x :: l)
  | [] => List.Perm.refl _
  | y :: r => by
    unfold insS
    by_cases c : leS x y = true
    · rw [if_pos c]
    · rw [if_neg c]
      exact ((insS_perm x r).cons y).trans (List.Perm.swap x y r)
theorem sortS_perm : ∀ l : List Str, (sortS l).Perm l
  | [] => List.Perm.refl _
  | x :: r => (insS_perm x _).trans ((sortS_perm r).cons x)
theorem insS_srt (x : Str) : ∀ l : List Str, l.Pairwise (fun a b => leS a b = true) → (insS x l).Pairwise fun a b => leS a b = true
  | [], _ => by simp [insS]
  | y :: r, h => by
    unfold insS
    have h' := List.pairwise_cons.mp h
    by_cases c : leS x y = true
    · rw [if_pos c]
      refine List.pairwise_cons.mpr ⟨fun k hk => ?_, h⟩
      rcases List.mem_cons.mp hk with rfl | hk
      · exact c
      · exact leS_trans c (h'.1 k hk)
    · rw [if_neg c]
      refine List.pairwise_cons.mpr ⟨fun k hk => ?_, insS_srt x r h'.2⟩
      rcases List.mem_cons.mp ((insS_perm x r).mem_iff.mp hk) with rfl | hk
      · exact (leS_total k y).resolve_left c
      · exact h'.1 k hk
theorem sortS_srt : ∀ l : List Str, (sortS l).Pairwise fun a b => leS a b = true
  | [] => List.Pairwise.nil
  | x :: r => insS_srt x _ (sortS_srt r)
theorem rising_srt : ∀ (l : List Str) (p : Str), risingS p l = true → (p :: l).Pairwise fun a b => leS a b = true
  | [], p, _ => by simp
  | x :: r, p, h => by
    have h' : (!ltCps x.cps.toList p.cps.toList && risingS x r) = true := h
    rw [Bool.and_eq_true] at h'
    have ih := rising_srt r x h'.2
    refine List.pairwise_cons.mpr ⟨fun k hk => ?_, ih⟩
    have px : leS p x = true := h'.1
    rcases List.mem_cons.mp hk with rfl | hk
    · exact px
    · exact leS_trans px ((List.pairwise_cons.mp ih).1 k hk)
theorem sorted_srt {l : List Str} (h : sortedS l = true) : l.Pairwise fun a b => leS a b = true := by
  cases l with
  | nil => exact List.Pairwise.nil
  | cons x r => exact rising_srt r x h
theorem sortS_uniq {l m : List Str} (p : l.Perm m) (h : sortedS l = true) : l = sortS m :=
  (p.trans (sortS_perm m).symm).eq_of_pairwise (fun a b _ _ h h' => leS_anti h h') (sorted_srt h) (sortS_srt m)
/-! ### sorted of a row -/
theorem collect_sz {P : Program} {w : World} {A : Around} {Ex : Value → Shared → Prop} {s : Shared} {Q : List Value → Shared → Prop} (r : Addr) {ty : String} {ob : Obj} {xs : Array Value} {m : Nat} (ht : ty = "list" ∨ ty = "tuple")
    (hr : s.heap.get? r = some ob) (hc : ob.cls = .type ty) (hd : ob.data = .seq xs m)
    (k : ∀ h', (∀ b u, s.heap.get? b = some u → h'.get? b = some u) → s.heap.objs.size ≤ h'.objs.size → Q xs.toList { s with heap := h' }) (le : xs.size ≤ sizeLine) :
    wpAny (model P w) A (collect (.ref r)) Q Ex s := by
  unfold collect
  refine wpAny_bind (wpAny_runValue (codeAny_builtin F.entry_proto_collect ?_))
  rw [Around.under_plainId F.plain_proto_collect _]
  show wpAny _ A.in1 (newList [] >>= fun z => again (.builtin "list.__iadd__" ⟨[z, .ref r], []⟩)) _ _ s
  refine wpAny_bind (wpAny_newObj_type ?_)
  refine wpAny_pure ⟨plainId_quiet F.plain_list_iadd _, codeAny_builtin F.entry_list_iadd ?_⟩
  rw [Around.under_plainId F.plain_list_iadd _]
  show wpAny _ A.in1 (Builtin.List.listExtendWith (.ref s.heap.objs.size) (.ref r) (.ref s.heap.objs.size)) _ _ _
  have n1 : (s.heap.push { cls := .type "list", data := .seq ([] : List Value).toArray }).get? s.heap.objs.size = some { cls := .type "list", data := .seq #[] 0 } := Heap.get?_push_size _ rfl
  have n2 := Heap.get?_update_self (Obj.mapSeq (· ++ xs)) n1 rfl
  have last : wpAny (model P w) A (match Value.ref s.heap.objs.size with
      | Value.ref q => do
        match (← load q).data with
          | Data.seq ys _ => pure ys.toList
          | _ => unsupported "internal:collect"
      | _ => unsupported "internal:collect") Q Ex { s with heap := (s.heap.push { cls := .type "list", data := .seq ([] : List Value).toArray }).update s.heap.objs.size (Obj.mapSeq (· ++ xs)) } := by
    show wpAny _ A (load s.heap.objs.size >>= _) _ _ _
    refine wpAny_bind (wpAny_load n2 (wpAny_pure ?_))
    have e : ((#[] : Array Value) ++ xs).toList = xs.toList := by simp
    show Q ((#[] : Array Value) ++ xs).toList _
    rw [e]
    refine k _ (fun b u hb => ?_) (Nat.le_of_lt (Heap.lt_size n2))
    exact (Heap.get?_update_other _ _ (Nat.ne_of_gt (Heap.lt_size hb))).trans (Heap.get?_push_of_some _ hb)
  refine wpAny_mono (wpAny_extend_seq (hsz := le) (A := A) (R := fun z s' => z = .ok (.ret (.ref s.heap.objs.size)) ∧ s' = { s with heap := (s.heap.push { cls := .type "list", data := .seq ([] : List Value).toArray }).update s.heap.objs.size (Obj.mapSeq (· ++ xs)) })
    (s := { s with heap := s.heap.push { cls := .type "list", data := .seq ([] : List Value).toArray } }) _ r _ 0 ht n1 (Heap.get?_push_of_some _ hr) hc hd ⟨rfl, rfl⟩) (fun fin s' z => ?_) (fun e s' z => ?_)
  · cases fin with
    | done f =>
      obtain ⟨e, rfl⟩ := z
      cases e
      exact last
    | again c' => exact ⟨z.1, codeAny_mono z.2 fun r s'' y => by obtain ⟨rfl, rfl⟩ := y; exact last⟩
  · exact absurd z.1 (by simp)
section
variable {X : Cx} {pins : List (Addr × Obj)} {σ : L2.St} {H : Hp} {s : Shared}
theorem row_collect {a : Addr} {xs : List V} {A : Around} {Ex : Value → Shared → Prop} {Q : List Value → Shared → Prop} (I : L2.Inv X pins σ H s) (h : SqL X.K H a xs ∨ SqT X.K H a xs)
    (k : ∀ its h', Vals xs its → its.length ≤ sizeLine → (∀ b o, s.heap.get? b = some o → h'.get? b = some o) → s.heap.objs.size ≤ h'.objs.size → Q its { s with heap := h' }) : wpAny (model X.prog X.w) A (collect (.ref a)) Q Ex s := by
  rcases h with h | h
  · obtain ⟨its, r, pl, hz⟩ := I.list h
    obtain ⟨o, ho, hc, n, hd⟩ := pl.isList
    have rl := r.length
    refine collect_sz a (.inl rfl) ho hc hd (fun h' hk sz => ?_) (by rw [List.size_toArray]; omega)
    exact k its h' r (by omega) hk sz
  · obtain ⟨its, r, pl, hz⟩ := I.tuple h
    obtain ⟨o, ho, hc, n, hd⟩ := (show s.heap.IsTuple a its.toArray from pl)
    have rl := r.length
    refine collect_sz a (.inr rfl) ho hc hd (fun h' hk sz => ?_) (by rw [List.size_toArray]; omega)
    exact k its h' r (by omega) hk sz
theorem lift_sorted {its : List Value} {out : Array Value} {h1 : Heap} {ys : List V} {Q : VK} {n : Nat} (I : L2.Inv X pins σ H s) (k1 : ∀ b o, s.heap.get? b = some o → h1.get? b = some o)
    (hn : (sortedHeap (h1.push (seqObj "list" its.toArray 0)) h1.objs.size its out).get? h1.objs.size = some (seqObj "list" out n)) (rv : Vals ys out.toList) (hl : ys.length ≤ sizeLine) (sz : s.heap.objs.size ≤ h1.objs.size)
    (q : ∀ p, H p = none → Q (.ref p) (upd H p (.lst ys))) : EP X pins σ Q (.ref h1.objs.size) { s with heap := sortedHeap (h1.push (seqObj "list" its.toArray 0)) h1.objs.size its out } := by
  have keep : ∀ b o, s.heap.get? b = some o → (sortedHeap (h1.push (seqObj "list" its.toArray 0)) h1.objs.size its out).get? b = some o := fun b o e => by
    have k := k1 b o e
    have lt := Heap.lt_size k
    rw [sortedHeap_old (Nat.ne_of_lt lt) (by rw [size_push']; exact Nat.lt_succ_of_lt lt)]
    exact Heap.get?_push_of_some _ k
  exact ⟨.ref h1.objs.size, _, I.laid (t' := s.toks) (o := .lst ys) keep sz ⟨hl, out.toList, n, rv, hn⟩, rfl, q _ (I.hok.fresh sz)⟩
end
section
variable {X : Cx}
theorem cr_sortedRS : CallR X (.builtin "sorted") (fun vs H Q => ∃ (a : Addr) (ss : List Str), vs = [V.ref a] ∧ (SqL X.K H a (ss.map V.str) ∨ SqT X.K H a (ss.map V.str)) ∧ ∀ p, H p = none → Q (.ref p) (upd H p (.lst ((sortS ss).map V.str)))) := by
  intro pins s σ H vs us Q I r h
  obtain ⟨a, ss, rfl, hs, q⟩ := h
  rw [Vals.ref1 r]
  refine Calls.call_function_entry kind_sorted plain_sorted entry_sorted (args_sorted1 _) ?_
  unfold Builtin.«sorted»
  refine wpAny_bind (m := checkCount "sorted" 1 1 _) (wpAny_pure ?_)
  refine wpAny_bind (row_collect I hs fun its h1 rv le k1 sz => ?_)
  have sa := rv.strs
  refine wpAny_bind (wpAny_newList ?_ le)
  have hL : (h1.push (seqObj "list" its.toArray 0)).get? h1.objs.size = some (seqObj "list" its.toArray 0) := Heap.get?_push_size _ rfl
  refine wpAny_bind (wpAny_holding (wpAny_call_entry slot_list_sort ⟨_, hL, rfl⟩ entry_list_sort
    (list_sort_treeKAny strKind_oneLt hL sa.keysOf (fun v₁ v₂ rest e => keyKind_strs (by rw [← e]; exact sa)) le fun st' hp hs => ⟨_, rfl, ?_⟩) (args_list_sort _)))
  obtain ⟨ys, a1, a2, a3⟩ := sorted_out_str sa hp hs
  obtain ⟨n, hn⟩ := sortedHeap_at (vs := its) (out := (arrOf st').map (·.2)) hL
  have e := sortS_uniq a2 a3
  subst e
  have rl := rv.length
  rw [List.length_map] at rl
  exact wpAny_pure ⟨_, rfl, lift_sorted (s := s) (h1 := h1) I k1 hn (vals_of_strs a1) (by rw [List.length_map, a2.length_eq, rl]; exact le) sz q⟩
theorem cr_sortedRI : CallR X (.builtin "sorted") (fun vs H Q => ∃ (a : Addr) (is : List Int), vs = [V.ref a] ∧ (SqL X.K H a (is.map V.int) ∨ SqT X.K H a (is.map V.int)) ∧ ∀ (ns : List Int) p, ns.Perm is → ns.Pairwise (· ≤ ·) → H p = none → Q (.ref p) (upd H p (.lst (ns.map V.int)))) := by
  intro pins s σ H vs us Q I r h
  obtain ⟨a, is, rfl, hs, q⟩ := h
  rw [Vals.ref1 r]
  refine Calls.call_function_entry kind_sorted plain_sorted entry_sorted (args_sorted1 _) ?_
  unfold Builtin.«sorted»
  refine wpAny_bind (m := checkCount "sorted" 1 1 _) (wpAny_pure ?_)
  refine wpAny_bind (row_collect I hs fun its h1 rv le k1 sz => ?_)
  have sa := rv.ints
  refine wpAny_bind (wpAny_newList ?_ le)
  have hL : (h1.push (seqObj "list" its.toArray 0)).get? h1.objs.size = some (seqObj "list" its.toArray 0) := Heap.get?_push_size _ rfl
  refine wpAny_bind (wpAny_holding (wpAny_call_entry slot_list_sort ⟨_, hL, rfl⟩ entry_list_sort (list_sort_treeAny hL sa le fun out ns' a1 a2 a3 => ⟨_, rfl, ?_⟩) (args_list_sort _)))
  obtain ⟨n, hn⟩ := sortedHeap_at (vs := its) (out := out) hL
  have rl := rv.length
  rw [List.length_map] at rl
  exact wpAny_pure ⟨_, rfl, lift_sorted (s := s) (h1 := h1) I k1 hn (vals_of_ints a1) (by rw [List.length_map, a2.length_eq, rl]; exact le) sz fun p hp => q ns' p a2 a3 hp⟩
end
end Ev
/-! Ev6: built-ins by values; isinstance; slices. -/
namespace Ev
open PySem L2
/-! ### mathematics -/
theorem insI_perm (i : Int) : ∀ l : List Int, (insI i l).Perm (i :: l)
  | [] => List.Perm.refl _
  | j :: r => by
    unfold insI
    by_cases h : i ≤ j
    · rw [if_pos h]
    · rw [if_neg h]
      exact ((insI_perm i r).cons j).trans (List.Perm.swap i j r)
theorem sortI_perm : ∀ l : List Int, (sortI l).Perm l
  | [] => List.Perm.refl _
  | i :: r => (insI_perm i _).trans ((sortI_perm r).cons i)
theorem insI_srt (i : Int) : ∀ l : List Int, l.Pairwise (· ≤ ·) → (insI i l).Pairwise (· ≤ ·)
  | [], _ => by simp [insI]
  | j :: r, h => by
    unfold insI
    have h' := List.pairwise_cons.mp h
    by_cases c : i ≤ j
    · rw [if_pos c]
      refine List.pairwise_cons.mpr ⟨fun k hk => ?_, h⟩
      rcases List.mem_cons.mp hk with rfl | hk
      · exact c
      · exact Int.le_trans c (h'.1 k hk)
    · rw [if_neg c]
      refine List.pairwise_cons.mpr ⟨fun k hk => ?_, insI_srt i r h'.2⟩
      rcases List.mem_cons.mp ((insI_perm i r).mem_iff.mp hk) with rfl | hk
      · omega
      · exact h'.1 k hk
theorem sortI_srt : ∀ l : List Int, (sortI l).Pairwise (· ≤ ·)
  | [] => List.Pairwise.nil
  | i :: r => insI_srt i _ (sortI_srt r)
theorem srt_uniq {l m : List Int} (p : l.Perm m) (h1 : l.Pairwise (· ≤ ·)) (h2 : m.Pairwise (· ≤ ·)) : l = m :=
  p.eq_of_pairwise (fun a b _ _ h h' => Int.le_antisymm h h') h1 h2
theorem sumI_sum : ∀ l : List Int, sumI l = l.sum
  | [] => rfl
  | i :: r => by rw [List.sum_cons, ← sumI_sum r]; rfl
theorem maxI_max : ∀ (l : List Int) (m : Int), (maxI m l = m ∨ maxI m l ∈ l) ∧ m ≤ maxI m l ∧ ∀ y ∈ l, y ≤ maxI m l
  | [], m => ⟨.inl rfl, Int.le_refl _, fun y h => by cases h⟩
  | i :: r, m => by
    obtain ⟨h1, h2, h3⟩ := maxI_max r (if m < i then i else m)
    show (maxI (if m < i then i else m) r = m ∨ maxI (if m < i then i else m) r ∈ i :: r) ∧ m ≤ maxI (if m < i then i else m) r ∧ ∀ y ∈ i :: r, y ≤ maxI (if m < i then i else m) r
    by_cases c : m < i
    · rw [if_pos c] at h1 h2 h3 ⊢
      refine ⟨.inr ?_, by omega, fun y hy => ?_⟩
      · rcases h1 with e | h
        · rw [e]; exact List.mem_cons_self
        · exact List.mem_cons_of_mem _ h
      · rcases List.mem_cons.mp hy with rfl | hy
        · exact h2
        · exact h3 y hy
    · rw [if_neg c] at h1 h2 h3 ⊢
      refine ⟨h1.imp id (List.mem_cons_of_mem _), h2, fun y hy => ?_⟩
      rcases List.mem_cons.mp hy with rfl | hy
      · omega
      · exact h3 y hy
theorem minI_min : ∀ (l : List Int) (m : Int), (minI m l = m ∨ minI m l ∈ l) ∧ minI m l ≤ m ∧ ∀ y ∈ l, minI m l ≤ y
  | [], m => ⟨.inl rfl, Int.le_refl _, fun y h => by cases h⟩
  | i :: r, m => by
    obtain ⟨h1, h2, h3⟩ := minI_min r (if i < m then i else m)
    show (minI (if i < m then i else m) r = m ∨ minI (if i < m then i else m) r ∈ i :: r) ∧ minI (if i < m then i else m) r ≤ m ∧ ∀ y ∈ i :: r, minI (if i < m then i else m) r ≤ y
    by_cases c : i < m
    · rw [if_pos c] at h1 h2 h3 ⊢
      refine ⟨.inr ?_, by omega, fun y hy => ?_⟩
      · rcases h1 with e | h
        · rw [e]; exact List.mem_cons_self
        · exact List.mem_cons_of_mem _ h
      · rcases List.mem_cons.mp hy with rfl | hy
        · exact h2
        · exact h3 y hy
    · rw [if_neg c] at h1 h2 h3 ⊢
      refine ⟨h1.imp id (List.mem_cons_of_mem _), h2, fun y hy => ?_⟩
      rcases List.mem_cons.mp hy with rfl | hy
      · omega
      · exact h3 y hy
theorem max_uniq {l : List Int} {a b : Int} (ha : a ∈ l) (hb : b ∈ l) (h1 : ∀ y ∈ l, y ≤ a) (h2 : ∀ y ∈ l, y ≤ b) : a = b := Int.le_antisymm (h2 a ha) (h1 b hb)
theorem min_uniq {l : List Int} {a b : Int} (ha : a ∈ l) (hb : b ∈ l) (h1 : ∀ y ∈ l, a ≤ y) (h2 : ∀ y ∈ l, b ≤ y) : a = b := Int.le_antisymm (h1 b hb) (h2 a ha)
theorem maxI_mem {i : Int} {r : List Int} : maxI i r ∈ i :: r ∧ ∀ y ∈ i :: r, y ≤ maxI i r := by
  obtain ⟨h1, h2, h3⟩ := maxI_max r i
  refine ⟨?_, fun y hy => ?_⟩
  · rcases h1 with e | h
    · rw [e]; exact List.mem_cons_self
    · exact List.mem_cons_of_mem _ h
  · rcases List.mem_cons.mp hy with rfl | hy
    · exact h2
    · exact h3 y hy
theorem minI_mem {i : Int} {r : List Int} : minI i r ∈ i :: r ∧ ∀ y ∈ i :: r, minI i r ≤ y := by
  obtain ⟨h1, h2, h3⟩ := minI_min r i
  refine ⟨?_, fun y hy => ?_⟩
  · rcases h1 with e | h
    · rw [e]; exact List.mem_cons_self
    · exact List.mem_cons_of_mem _ h
  · rcases List.mem_cons.mp hy with rfl | hy
    · exact h2
    · exact h3 y hy
theorem FzL.of_ints {K : PySem.W.Frag} {H : Hp} {av : Addr → Prop} : ∀ is : List Int, FzL K H av (is.map T.int) (is.map V.int)
  | [] => rfl
  | i :: r => ⟨.int i, r.map V.int, rfl, rfl, FzL.of_ints r⟩
theorem Mk.ints {K : PySem.W.Frag} {H : Hp} {av : Addr → Prop} {p : Addr} (is : List Int) (hp : H p = none) : Mk K H av (.lst (is.map fun i => W.val (.int i))) (.ref p) (upd H p (.lst (is.map V.int))) [p] := by
  have e : is.map (fun i => W.val (.int i)) = (is.map T.int).map W.val := by rw [List.map_map]; rfl
  rw [e]
  exact Mk.fzl hp (FzL.of_ints is)
/-! ### the calls -/
theorem CallR.imp {X : Cx} {f : Value} {r r' : List V → Hp → VK → Prop} (h : CallR X f r) (i : ∀ xs H Q, r' xs H Q → r xs H Q) : CallR X f r' :=
  fun pins s σ H xs us Q I rv q => h pins s σ H xs us Q I rv (i xs H Q q)
section
variable {X : Cx} {H : Hp} {av : Addr → Prop} {K : PySem.W.Frag}
theorem one_of {ts : List T} {t : T} {xs : List V} (h : FzL K H av [t] xs) : ∃ v, xs = [v] ∧ Fz K H av t v := by
  obtain ⟨v, r, rfl, a, b⟩ := h
  cases (show r = [] from b)
  exact ⟨v, rfl, a⟩
theorem two_of {t u : T} {xs : List V} (h : FzL K H av [t, u] xs) : ∃ v w, xs = [v, w] ∧ Fz K H av t v ∧ Fz K H av u w := by
  obtain ⟨v, r, rfl, a, w, r2, rfl, b, c⟩ := h
  cases (show r2 = [] from c)
  exact ⟨v, w, rfl, a, b⟩

theorem ints_sq {ts : List T} {xs : List V} {is : List Int} (e : T.ints ts = some is) (h : FzL K H av ts xs) : xs = is.map V.int := by
  induction ts generalizing xs is with
  | nil =>
    cases e
    exact h
  | cons t ts ih =>
    obtain ⟨v, r, rfl, h1, h2⟩ := h
    cases t with
    | int i =>
      obtain ⟨js, e1, e2⟩ := Option.map_eq_some_iff.mp (show (T.ints ts).map (i :: ·) = some is from e)
      subst e2
      rw [ih e1 h2, show v = .int i from h1]
      rfl
    | _ => cases e
theorem bls_sq {ts : List T} {xs : List V} {is : List Bool} (e : T.bls ts = some is) (h : FzL K H av ts xs) : xs = is.map V.bl := by
  induction ts generalizing xs is with
  | nil =>
    cases e
    exact h
  | cons t ts ih =>
    obtain ⟨v, r, rfl, h1, h2⟩ := h
    cases t with
    | bl i =>
      obtain ⟨js, e1, e2⟩ := Option.map_eq_some_iff.mp (show (T.bls ts).map (i :: ·) = some is from e)
      subst e2
      rw [ih e1 h2, show v = .bl i from h1]
      rfl
    | _ => cases e
theorem bi_len : CallR X (.builtin "len") (rPL X.K lenT) := by
  refine CallR.imp call_len fun xs H Q ⟨av, ts, w, hf, e, q⟩ => ?_
  unfold lenT at e
  split at e
  · cases e
    obtain ⟨v, rfl, a, zs, rfl, ha, _, hl⟩ := one_of (ts := []) hf
    exact ⟨_, _, rfl, .inl ⟨zs, .inl ha, rfl⟩, by rw [← hl.len]; exact q _ _ _ (Mk.int _)⟩
  · cases e
    obtain ⟨v, rfl, a, zs, rfl, ha, hl⟩ := one_of (ts := []) hf
    exact ⟨_, _, rfl, .inr ⟨zs, ha, rfl⟩, by rw [← hl.len]; exact q _ _ _ (Mk.int _)⟩
  · cases e
    obtain ⟨v, rfl, a, rfl, ha⟩ := one_of (ts := []) hf
    exact ⟨_, _, rfl, .inl ⟨_, scr_sq ha, rfl⟩, by rw [List.length_map]; exact q _ _ _ (Mk.int _)⟩
  · rename_i z
    by_cases c : decide (z.length ≤ 16777216) = true
    · rw [if_pos c] at e
      cases e
      obtain ⟨v, rfl, rfl⟩ := one_of (ts := []) hf
      exact ⟨_, _, rfl, ⟨by rw [sizeLine_eq]; exact of_decide_eq_true c, rfl⟩, q _ _ _ (Mk.int _)⟩
    · rw [if_neg c] at e; cases e
  · cases e
theorem CallR.or {f : Value} {r r' : List V → Hp → VK → Prop} (h : CallR X f r) (h' : CallR X f r') : CallR X f fun xs H Q => r xs H Q ∨ r' xs H Q :=
  fun pins s σ H xs us Q I rv q => q.elim (h pins s σ H xs us Q I rv) (h' pins s σ H xs us Q I rv)
theorem keys_fz {K : PySem.W.Frag} {H : Hp} {av : Addr → Prop} : ∀ ks : List Key, FzL K H av (ks.map tKey) (ks.map kV)
  | [] => rfl
  | k :: ks => ⟨kV k, ks.map kV, rfl, tKey_fz, keys_fz ks⟩
theorem bi_list (hc : X.calm = true) : CallR X (.type "list") (rPL X.K listT) := by
  refine CallR.imp (CallR.or call_list_of (call_listD hc)) fun xs H Q ⟨av, ts, w, hf, e, q⟩ => ?_
  unfold listT at e
  split at e
  · cases e
    obtain ⟨v, rfl, a, zs, rfl, ha, _, hl⟩ := one_of (ts := []) hf
    exact .inl ⟨a, zs, rfl, .inl (.inl ha), fun l hl' => q _ _ _ (Mk.fzl hl' hl)⟩
  · cases e
    obtain ⟨v, rfl, a, zs, rfl, ha, hl⟩ := one_of (ts := []) hf
    exact .inl ⟨a, zs, rfl, .inr ha, fun l hl' => q _ _ _ (Mk.fzl hl' hl)⟩
  · obtain ⟨ks, ek, e2⟩ := Option.bind_eq_some_iff.mp e
    by_cases c : decide (ks.length ≤ 16777216) = true
    · rw [if_pos c] at e2
      cases e2
      obtain ⟨v, rfl, a, zs, o, rfl, at_, _, no, hl⟩ := one_of (ts := []) hf
      obtain ⟨kvs, rfl, f1, f2, _⟩ := no.dct ek
      refine .inr ⟨a, kvs, rfl, at_.rd, fun p hp => ?_⟩
      have e3 : (kvs.map fun kv => kV kv.1) = ks.map kV := by rw [← f1, List.map_map]; rfl
      rw [e3]
      have m := Mk.fzl hp (keys_fz (K := X.K) (H := H) (av := av) ks)
      rw [List.map_map] at m
      exact q _ _ _ m
    · rw [if_neg c] at e2; cases e2
  · cases e
/-- pairs put in one by one: keys, values -/
theorem merge_fz {K : PySem.W.Frag} {H : Hp} {av : Addr → Prop} : ∀ (js : List Key) (vs : List T) (more kvs : List (Key × V)) (ks : List Key) (ts : List T) (xs : List V), more.map (·.1) = js → FzL K H av vs (more.map (·.2)) → kvs.map (·.1) = ks → kvs.map (·.2) = xs → ks.Nodup → FzL K H av ts xs →
    DctO (mergeD ks ts js vs).1 ((mergeK kvs more).map (·.2)) (.dK (mergeK kvs more)) ∧ FzL K H av (mergeD ks ts js vs).2 ((mergeK kvs more).map (·.2))
  | [], vs, more, kvs, ks, ts, xs, e1, hv, f1, f2, nd, hl => by
    have em : more = [] := by cases more with | nil => rfl | cons _ _ => cases e1
    subst em
    refine ⟨⟨kvs, rfl, ?_, rfl, ?_⟩, ?_⟩
    · rw [f1]; cases vs <;> rfl
    · have : (mergeD ks ts [] vs).1 = ks := by cases vs <;> rfl
      rw [this]; exact nd
    · have : (mergeD ks ts [] vs).2 = ts := by cases vs <;> rfl
      rw [this]
      show FzL K H av ts (kvs.map (·.2))
      rw [f2]; exact hl
  | j :: js, vs, more, kvs, ks, ts, xs, e1, hv, f1, f2, nd, hl => by
    cases more with
    | nil => cases e1
    | cons p more =>
      obtain ⟨ep, er⟩ := List.cons.inj (show p.1 :: more.map (·.1) = j :: js from e1)
      cases vs with
      | nil => exact absurd hv.len (by simp)
      | cons v vs =>
        obtain ⟨z, r, ez, h1, h2⟩ := hv
        obtain ⟨e2, e3⟩ := List.cons.inj (show p.2 :: more.map (·.2) = z :: r from ez)
        subst e2 e3 ep
        have pm := putK_map p.1 p.2 kvs (by rw [f1]; exact nd)
        show DctO (mergeD (putN ks p.1) (putV ks ts p.1 v) js vs).1 ((mergeK (putK kvs p.1 p.2) more).map (·.2)) (.dK (mergeK (putK kvs p.1 p.2) more)) ∧ FzL K H av (mergeD (putN ks p.1) (putV ks ts p.1 v) js vs).2 ((mergeK (putK kvs p.1 p.2) more).map (·.2))
        refine merge_fz js vs more (putK kvs p.1 p.2) (putN ks p.1) (putV ks ts p.1 v) (Ev.putV ks xs p.1 p.2) er h2 (by rw [pm.1, f1]) (by rw [pm.2, f1, f2]) (putN_nodup ks p.1 nd) ?_
        have kl : ks.length = ts.length := by rw [hl.len, ← f2, ← f1, List.length_map, List.length_map]
        clear pm ez e1 er h2
        induction ks generalizing ts xs kvs with
        | nil =>
          cases ts with
          | nil =>
            cases (show xs = [] from hl)
            exact ⟨p.2, [], rfl, h1, rfl⟩
          | cons _ _ => cases kl
        | cons k ks ih =>
          cases ts with
          | nil => cases kl
          | cons t ts =>
            obtain ⟨y, ys, rfl, g1, g2⟩ := hl
            show FzL K H av (if k = p.1 then v :: ts else t :: putV ks ts p.1 v) (if k = p.1 then p.2 :: ys else y :: Ev.putV ks ys p.1 p.2)
            by_cases c : k = p.1
            · rw [if_pos c, if_pos c]
              exact ⟨p.2, ys, rfl, h1, g2⟩
            · rw [if_neg c, if_neg c]
              cases kvs with
              | nil => cases f1
              | cons q qs =>
                exact ⟨y, _, rfl, g1, ih qs ts ys (List.cons.inj f1).2 (List.cons.inj f2).2 (List.nodup_cons.mp nd).2 g2 (by simpa using kl)⟩
theorem prs_fz {K : PySem.W.Frag} {H : Hp} {av : Addr → Prop} : ∀ (ts : List T) (xs : List V) (p : List Key × List T), T.prs ts = some p → FzL K H av ts xs → ∃ (ps : List Addr) (kvs : List (Key × V)), xs = ps.map V.ref ∧ Paired (fun q kv => SqT K H q [kV kv.1, kv.2]) ps kvs ∧ kvs.map (·.1) = p.1 ∧ FzL K H av p.2 (kvs.map (·.2))
  | [], xs, p, e, h => by
    cases e
    cases (show xs = [] from h)
    exact ⟨[], [], rfl, .nil, rfl, rfl⟩
  | t :: ts, xs, p, e, h => by
    obtain ⟨v, r, rfl, h1, h2⟩ := h
    unfold T.prs at e
    split at e
    · rename_i h0; cases h0
    · rename_i k u r' h0
      cases h0
      obtain ⟨j, ej, e2⟩ := Option.bind_eq_some_iff.mp e
      obtain ⟨q, eq, e3⟩ := Option.map_eq_some_iff.mp e2
      subst e3
      obtain ⟨a, ys, rfl, hs, hl⟩ := h1
      obtain ⟨y1, r1, rfl, g1, g2⟩ := hl
      obtain ⟨y2, r2, rfl, g3, g4⟩ := g2
      cases (show r2 = [] from g4)
      obtain ⟨ps, kvs, e5, pr, e6, e7⟩ := prs_fz ts r q eq h2
      refine ⟨a :: ps, (j, y2) :: kvs, by rw [e5]; rfl, .cons ?_ pr, ?_, ⟨y2, _, rfl, g3, e7⟩⟩
      · show SqT K H a [kV j, y2]
        rw [← key_fz g1 ej]; exact hs
      · show j :: kvs.map (·.1) = j :: q.1
        rw [e6]
    · cases e
theorem Mk.dct {K : PySem.W.Frag} {H : Hp} {av : Addr → Prop} {p : Addr} {kvs : List (Key × V)} {ks : List Key} {ts : List T} (hp : H p = none) (d : DctO ks (kvs.map (·.2)) (.dK kvs)) (h : FzL K H av ts (kvs.map (·.2))) : Mk K H av (.nd (.dct ks) (ts.map .val)) (.ref p) (upd H p (.dK kvs)) [p] where
  ext := fun b o q => newkeep hp b o q
  nd := List.nodup_cons.mpr ⟨fun z => (by cases z), List.nodup_nil⟩
  fresh := fun b hb => by
    rcases List.mem_cons.mp hb with rfl | z
    · exact hp
    · cases z
  own := ⟨p, _, _, [], rfl, rfl, upd_same, ⟨d, rfl⟩, OwnL.mono _ _ [] (fun b o q _ => newkeep hp b o q) (newtups hp) (fun b z => by
    rcases z with z | z
    · rcases List.mem_cons.mp z with rfl | z
      · exact .inr hp
      · cases z
    · exact .inl z) (FzL.own ts _ h)⟩
theorem bi_dict (hc : X.calm = true) : CallR X (.type "dict") (rPL X.K dictT) := by
  refine CallR.imp (CallR.or call_dictD (call_dictP hc)) fun xs H Q ⟨av, ts, w, hf, e, q⟩ => ?_
  unfold dictT at e
  split at e
  · obtain ⟨ks, ek, e2⟩ := Option.map_eq_some_iff.mp e
    subst e2
    obtain ⟨v, rfl, a, zs, o, rfl, at_, _, no, hl⟩ := one_of (ts := []) hf
    obtain ⟨kvs, rfl, f1, f2, nd⟩ := no.dct ek
    refine .inl ⟨a, kvs, rfl, at_.rd, fun p hp => q _ _ _ (Mk.dct hp ⟨kvs, rfl, f1, rfl, nd⟩ (by rw [f2]; exact hl))⟩
  · obtain ⟨p, ep, e2⟩ := Option.map_eq_some_iff.mp e
    subst e2
    obtain ⟨v, rfl, a, zs, rfl, ha, _, hl⟩ := one_of (ts := []) hf
    obtain ⟨ps, kvs, ez, pr, f1, f2⟩ := prs_fz _ _ p ep hl
    subst ez
    refine .inr ⟨a, ps, kvs, rfl, .inl ha, pr, fun l hl' => ?_⟩
    obtain ⟨g1, g2⟩ := merge_fz (K := X.K) (H := H) (av := av) p.1 p.2 kvs [] [] [] [] f1 f2 rfl rfl List.nodup_nil rfl
    exact q _ _ _ (Mk.dct hl' g1 g2)
  · cases e
theorem bi_tuple : CallR X (.type "tuple") (rPL X.K tupleT) := by
  refine CallR.imp call_tuple_of fun xs H Q ⟨av, ts, w, hf, e, q⟩ => ?_
  unfold tupleT at e
  split at e
  · cases e
    obtain ⟨v, rfl, a, zs, rfl, ha, _, hl⟩ := one_of (ts := []) hf
    exact ⟨a, zs, rfl, .inl ⟨.inl ha, fun l hl' => q _ _ _ (Mk.tup hl' hl)⟩⟩
  · cases e
    obtain ⟨v, rfl, a, zs, rfl, ha, hl⟩ := one_of (ts := []) hf
    exact ⟨a, zs, rfl, .inr ⟨ha, q _ _ _ (Mk.same ⟨a, zs, rfl, ha, hl⟩)⟩⟩
  · cases e
theorem strs_sq {K : PySem.W.Frag} {H : Hp} {av : Addr → Prop} {ts : List T} {xs : List V} {ss : List Str} (e : T.strs ts = some ss) (h : FzL K H av ts xs) : xs = ss.map V.str := by
  induction ts generalizing xs ss with
  | nil => cases (show xs = [] from h); cases e; rfl
  | cons t ts ih =>
    obtain ⟨v, r, rfl, a, b⟩ := h
    cases t with
    | str i =>
      obtain ⟨js, e1, e2⟩ := Option.map_eq_some_iff.mp (show (T.strs ts).map (i :: ·) = some ss from e)
      subst e2
      rw [ih e1 b, show v = V.str i from a]
      rfl
    | _ => cases e
theorem strs_fz {K : PySem.W.Frag} {H : Hp} {av : Addr → Prop} : ∀ ss : List Str, FzL K H av (ss.map T.str) (ss.map V.str)
  | [] => rfl
  | x :: r => ⟨_, _, rfl, rfl, strs_fz r⟩
theorem Mk.strs {K : PySem.W.Frag} {H : Hp} {av : Addr → Prop} {p : Addr} (ss : List Str) (hp : H p = none) : Mk K H av (.lst (ss.map fun x => .val (.str x))) (.ref p) (upd H p (.lst (ss.map V.str))) [p] := by
  have m := Mk.fzl hp (strs_fz (K := K) (H := H) (av := av) ss)
  rw [List.map_map] at m
  exact m
theorem sortL_ok {ts : List T} {xs : List V} {w : W} {H : Hp} {av : Addr → Prop} {Q : VK} {a : Addr} (e : sortL ts = some w) (hl : FzL X.K H av ts xs) (hs : SqL X.K H a xs ∨ SqT X.K H a xs) (q : ∀ v H' B, Mk X.K H av w v H' B → Q v H') :
    (∃ (b : Addr) (is : List Int), [V.ref a] = [V.ref b] ∧ (SqL X.K H b (is.map V.int) ∨ SqT X.K H b (is.map V.int)) ∧ ∀ (ns : List Int) p, ns.Perm is → ns.Pairwise (· ≤ ·) → H p = none → Q (.ref p) (upd H p (.lst (ns.map V.int)))) ∨
    ∃ (b : Addr) (ss : List Str), [V.ref a] = [V.ref b] ∧ (SqL X.K H b (ss.map V.str) ∨ SqT X.K H b (ss.map V.str)) ∧ ∀ p, H p = none → Q (.ref p) (upd H p (.lst ((sortS ss).map V.str))) := by
  unfold sortL at e
  cases e1 : T.ints ts with
  | some is =>
    rw [e1] at e
    cases e
    have ez := ints_sq e1 hl
    subst ez
    refine .inl ⟨a, is, rfl, hs, fun ns' p pm ps hp => ?_⟩
    rw [srt_uniq (pm.trans (sortI_perm is).symm) ps (sortI_srt is)]
    exact q _ _ _ (Mk.ints _ hp)
  | none =>
    rw [e1] at e
    obtain ⟨ss, e2, e3⟩ := Option.map_eq_some_iff.mp e
    subst e3
    have ez := strs_sq e2 hl
    subst ez
    exact .inr ⟨a, ss, rfl, hs, fun p hp => q _ _ _ (Mk.strs _ hp)⟩
theorem bi_sorted : CallR X (.builtin "sorted") (rPL X.K sortedT) := by
  refine CallR.imp (CallR.or cr_sortedRI cr_sortedRS) fun xs H Q ⟨av, ts, w, hf, e, q⟩ => ?_
  unfold sortedT at e
  split at e
  · obtain ⟨v, rfl, a, zs, rfl, ha, _, hl⟩ := one_of (ts := []) hf
    exact sortL_ok e hl (.inl (.inl ha)) q
  · obtain ⟨v, rfl, a, zs, rfl, ha, hl⟩ := one_of (ts := []) hf
    exact sortL_ok e hl (.inr ha) q
  · cases e
theorem bi_int : CallR X (.type "int") (rPL X.K intT) := by
  refine CallR.imp call_int1 fun xs H Q ⟨av, ts, w, hf, e, q⟩ => ?_
  unfold intT at e
  split at e
  · cases e
    obtain ⟨v, rfl, rfl⟩ := one_of (ts := []) hf
    exact .inl ⟨_, rfl, q _ _ _ (Mk.int _)⟩
  · cases e
    obtain ⟨v, rfl, rfl⟩ := one_of (ts := []) hf
    exact .inr ⟨_, rfl, q _ _ _ (Mk.int _)⟩
  · cases e
theorem bi_sum (hc : X.calm = true) : CallR X (.builtin "sum") (rPL X.K sumT) := by
  refine CallR.imp (cr_sum hc) fun xs H Q ⟨av, ts, w, hf, e, q⟩ => ?_
  unfold sumT at e
  split at e
  · obtain ⟨is, e1, e2⟩ := Option.map_eq_some_iff.mp e
    subst e2
    obtain ⟨v, rfl, a, zs, rfl, ha, _, hl⟩ := one_of (ts := []) hf
    have ez := ints_sq e1 hl
    subst ez
    refine ⟨a, is, rfl, .inl ha, ?_⟩
    rw [← sumI_sum]
    exact q _ _ _ (Mk.int _)
  · cases e
theorem bi_all (hc : X.calm = true) : CallR X (.builtin "all") (rPL X.K allT) := by
  refine CallR.imp (cr_all hc) fun xs H Q ⟨av, ts, w, hf, e, q⟩ => ?_
  unfold allT at e
  split at e
  · obtain ⟨is, e1, e2⟩ := Option.map_eq_some_iff.mp e
    subst e2
    obtain ⟨v, rfl, a, zs, rfl, ha, _, hl⟩ := one_of (ts := []) hf
    have ez := bls_sq e1 hl
    subst ez
    exact ⟨a, is, rfl, .inl ha, q _ _ _ (Mk.bl _)⟩
  · cases e
theorem bi_any (hc : X.calm = true) : CallR X (.builtin "any") (rPL X.K anyT) := by
  refine CallR.imp (cr_any hc) fun xs H Q ⟨av, ts, w, hf, e, q⟩ => ?_
  unfold anyT at e
  split at e
  · obtain ⟨is, e1, e2⟩ := Option.map_eq_some_iff.mp e
    subst e2
    obtain ⟨v, rfl, a, zs, rfl, ha, _, hl⟩ := one_of (ts := []) hf
    have ez := bls_sq e1 hl
    subst ez
    exact ⟨a, is, rfl, .inl ha, q _ _ _ (Mk.bl _)⟩
  · cases e
theorem bi_min (hc : X.calm = true) : CallR X (.builtin "min") (rPL X.K minT) := by
  refine CallR.imp (CallR.or (call_min2 hc) (cr_min hc)) fun xs H Q ⟨av, ts, w, hf, e, q⟩ => ?_
  unfold minT at e
  split at e
  · cases e
    obtain ⟨v, u, rfl, rfl, rfl⟩ := two_of hf
    exact .inl ⟨_, _, rfl, q _ _ _ (Mk.int _)⟩
  · obtain ⟨is, e1, e2⟩ := Option.bind_eq_some_iff.mp e
    obtain ⟨v, rfl, a, zs, rfl, ha, _, hl⟩ := one_of (ts := []) hf
    have ez := ints_sq e1 hl
    subst ez
    cases is with
    | nil => cases e2
    | cons i r =>
      cases e2
      refine .inr ⟨a, i :: r, rfl, .inl ha, Nat.succ_pos _, fun m h1 h2 => ?_⟩
      rw [min_uniq h1 minI_mem.1 h2 minI_mem.2]
      exact q _ _ _ (Mk.int _)
  · cases e
theorem bi_max (hc : X.calm = true) : CallR X (.builtin "max") (rPL X.K maxT) := by
  refine CallR.imp (CallR.or (call_max2 hc) (cr_max hc)) fun xs H Q ⟨av, ts, w, hf, e, q⟩ => ?_
  unfold maxT at e
  split at e
  · cases e
    obtain ⟨v, u, rfl, rfl, rfl⟩ := two_of hf
    exact .inl ⟨_, _, rfl, q _ _ _ (Mk.int _)⟩
  · obtain ⟨is, e1, e2⟩ := Option.bind_eq_some_iff.mp e
    obtain ⟨v, rfl, a, zs, rfl, ha, _, hl⟩ := one_of (ts := []) hf
    have ez := ints_sq e1 hl
    subst ez
    cases is with
    | nil => cases e2
    | cons i r =>
      cases e2
      refine .inr ⟨a, i :: r, rfl, .inl ha, Nat.succ_pos _, fun m h1 h2 => ?_⟩
      rw [max_uniq h1 maxI_mem.1 h2 maxI_mem.2]
      exact q _ _ _ (Mk.int _)
  · cases e
end
/-! ### isinstance -/
def Ty.nm : Ty → String
  | .int => "int"
  | .bool => "bool"
  | .str => "str"
  | .non => "NoneType"
  | .list => "list"
  | .tuple => "tuple"
  | .dict => "dict"
theorem tyX_of {K : PySem.W.Frag} {H : Hp} {av : Addr → Prop} {t : T} {v : V} {y : Ty} (h : Fz K H av t v) (e : tyT t = some y) : TyX K H v (.type y.nm) := by
  cases t with
  | non => cases e; cases (show v = _ from h); exact .base .non
  | bl b => cases e; cases (show v = _ from h); exact .base (.bl b)
  | int b => cases e; cases (show v = _ from h); exact .base (.int b)
  | str b => cases e; cases (show v = _ from h); exact .base (.str b)
  | lst ts =>
    cases e
    obtain ⟨a, xs, rfl, ha, _⟩ := h
    rcases ha with ha | ⟨o, ha⟩
    · exact .base (.lst ha)
    · exact .base (.frz ha)
  | tup ts =>
    cases e
    obtain ⟨a, xs, rfl, ha, _⟩ := h
    rcases ha with (ha | ⟨o, ha⟩) | ⟨o, its, n, hk, hc, _⟩
    · exact .base (.tup ha)
    · exact .fTuple ha
    · exact .kTuple hk hc
  | nd n ts =>
    have e' : (if n.keys.isSome = true then some Ty.dict else none) = some y := e
    by_cases c : n.keys.isSome = true
    · rw [if_pos c] at e'
      cases e'
      obtain ⟨ks, ek⟩ := Option.isSome_iff_exists.mp c
      obtain ⟨a, xs, o, rfl, at_, _, no, _⟩ := h
      obtain ⟨kvs, rfl, _⟩ := no.dct ek
      rcases at_.rd with z | ⟨u, z⟩
      · exact .base (.dK z)
      · exact .fDict z
    · rw [if_neg c] at e'; cases e'
  | _ => cases e
theorem kit_sub (K : PySem.W.Frag) : ∀ y c : Ty, c ≠ .non → PySem.W.kitOne K (.type y.nm) (.type c.nm) = some (y.sub c) := by
  intro y c hc
  refine kit_ty ?_
  cases y <;> cases c <;> first | decide +kernel | exact absurd rfl hc
theorem kit_subs (K : PySem.W.Frag) (y : Ty) : ∀ cs : List Ty, (∀ c ∈ cs, c ≠ .non) → PySem.W.kitAny K (.type y.nm) (cs.map fun c => .type c.nm) = some (cs.any y.sub)
  | [], _ => kitAny_nil
  | c :: cs, h => by
    refine kitAny_cons (kit_sub K y c (h c List.mem_cons_self)) (fun e => ?_) fun e => ?_
    · rw [kit_subs K y cs fun d hd => h d (List.mem_cons_of_mem _ hd), List.any_cons, e]
      rfl
    · rw [List.any_cons, e]
      rfl
section
variable {X : Cx} {g : Cfg} {pos p0 : Pos} {a b c : Expr} {ia ib ic : E}
theorem snd_isi {y : Ty} {px : Pos} {x : Str} (hy : y ≠ .non) (hg : Gl X "isinstance") (hm : X.mg "isinstance" = none) (hgx : Gl X x) (hmx : X.mg x = none) (hbx : bootBuiltins x = some (.type y.nm)) (hdx : (x == ("__debug__" : Str)) = false) (hnx : x ≠ "__name__")
    (ha : PE X a (tE X.K g ia)) (hs : starEach [a, .Name x px] X.env = (false, eval a X.env) :: starEach [.Name x px] X.env) : PE X (.Call (.Name "isinstance" p0) [a, .Name x px] [] pos) (tE X.K g (.isi ia y)) :=
  PE.imp (pe_callB (t := tCons (tE X.K g ia) (tCons (tC (.ty y.nm)) tNil)) call_isi hg hm rfl (pa_cons ha (pa_cons (pe_bltn hgx hmx hbx rfl hnx hdx) pa_nil rfl) hs) (by decide) (by decide) hs rfl) fun σ H Q ⟨Rt, env, A, rl, p⟩ => by
    refine ⟨Rt, env, A, rl, Post.seq p fun x e1 v H1 A1 B1 s1 o1 p1 => ?_⟩
    obtain ⟨w, ew, p2⟩ := Post.of p1
    obtain ⟨k, ek, e2⟩ := Option.map_eq_some_iff.mp ew
    subst e2
    obtain ⟨z, ez, e3⟩ := Option.map_eq_some_iff.mp (show (tyT x.fz).map (fun y' => [y].any y'.sub) = some k from ek)
    refine ⟨v, .ty y.nm, .type z.nm, .type y.nm, z.sub y, rfl, .ty _, tyX_of (s1.fz0 o1) ez, kit_sub _ z y hy, ?_⟩
    have : k = z.sub y := by rw [← e3]; exact Bool.or_false _
    rw [← this]
    exact p2 (.bl k) H1 A1 [] s1.drop0 ⟨rfl, rfl⟩
end
end Ev
/-! Ev12: constants of the module, isinstance of several classes, slices, lists of ranges, sets that are read at once. -/
namespace Ev
open PySem L2
section
variable {X : Cx} {g : Cfg} {pos p0 : Pos} {a b c : Expr} {ia ib ic : E}
theorem snd_cst {n : Nat} {t : T} {v : V} {u : Value} {x : Str} (hG : g.G n = some t) (hv : ∀ H av, Fz X.K H av t v) (hg : Gl X x) (hm : X.mg x = some u) (r : RelV v u) (hd : (x == ("__debug__" : Str)) = false) : PE X (.Name x pos) (tE X.K g (.cst n)) :=
  PE.imp (pe_glob hg hm r hd) fun σ H Q ⟨Rt, env, A, rl, p⟩ => by
    have p' : Post X.K g (PO1 X.K) Rt σ H A (R.of ((g.G n).map .val) env) Q := p
    rw [hG] at p'
    exact p' v H A [] rl.sx ⟨rfl, hv _ _⟩
theorem snd_isis2 {y z : Ty} {px py pt : Pos} {x x' : Str} {kt : Nat} (hy : y ≠ .non) (hz : z ≠ .non) (hg : Gl X "isinstance") (hm : X.mg "isinstance" = none) (hgx : Gl X x) (hmx : X.mg x = none) (hbx : bootBuiltins x = some (.type y.nm)) (hdx : (x == ("__debug__" : Str)) = false) (hnx : x ≠ "__name__")
    (hgy : Gl X x') (hmy : X.mg x' = none) (hby : bootBuiltins x' = some (.type z.nm)) (hdy : (x' == ("__debug__" : Str)) = false) (hny : x' ≠ "__name__")
    (ha : PE X a (tE X.K g ia)) (hs : starEach [a, .Tuple [.Name x px, .Name x' py] kt pt] X.env = (false, eval a X.env) :: starEach [.Tuple [.Name x px, .Name x' py] kt pt] X.env) :
    PE X (.Call (.Name "isinstance" p0) [a, .Tuple [.Name x px, .Name x' py] kt pt] [] pos) (tE X.K g (.isis ia [y, z])) :=
  PE.imp (pe_callB (t := tCons (tE X.K g ia) (tCons (tTup (tCons (tC (.ty y.nm)) (tCons (tC (.ty z.nm)) tNil))) tNil)) call_isiT hg hm rfl
      (pa_cons ha (pa_cons (pe_tup (pa_cons (pe_bltn hgx hmx hbx rfl hnx hdx) (pa_cons (pe_bltn hgy hmy hby rfl hny hdy) pa_nil rfl) rfl)) pa_nil rfl) hs) (by decide) (by decide) hs rfl) fun σ H Q ⟨Rt, env, A, rl, p⟩ => by
    refine ⟨Rt, env, A, rl, Post.seq p fun x e1 v H1 A1 B1 s1 o1 p1 => ?_⟩
    obtain ⟨w, ew, p2⟩ := Post.of p1
    obtain ⟨k, ek, e2⟩ := Option.map_eq_some_iff.mp ew
    subst e2
    obtain ⟨q, ez, e3⟩ := Option.map_eq_some_iff.mp (show (tyT x.fz).map (fun y' => [y, z].any y'.sub) = some k from ek)
    refine ⟨by rw [sizeLine_eq]; exact (by decide : 2 ≤ 16777216), fun t ht => ?_⟩
    have s2 := s1.drop0.new (o := .tup [.ty y.nm, .ty z.nm]) ht
    have fz := s1.fz0 o1
    have fz2 : Fz X.K (upd H1 t (.tup [.ty y.nm, .ty z.nm])) (Av (A1 ++ []) Rt) x.fz v := Fz.mono (fun b o q _ => newkeep ht b o q) (newtups ht) (fun b z => .inl z) _ _ fz
    refine ⟨v, t, [.ty y.nm, .ty z.nm], .type q.nm, [.type y.nm, .type z.nm], k, rfl, upd_same, .cons (.ty _) (.cons (.ty _) .nil), tyX_of fz2 ez, ?_, p2 (.bl k) _ A1 [] s2.drop0 ⟨rfl, rfl⟩⟩
    rw [← e3]
    exact kit_subs X.K q [y, z] fun c hc => by
      rcases List.mem_cons.mp hc with rfl | hc
      · exact hy
      · rcases List.mem_cons.mp hc with rfl | hc
        · exact hz
        · cases hc
/-! ### slices -/
theorem PO.imp {e : Option Expr} {t t' : TO} (h : PO X e t) (i : ∀ σ H Q, t' σ H Q → t σ H Q) : PO X e t' := ⟨fun pins s σ H Q I q => h.run pins s σ H Q I (i σ H Q q)⟩
theorem sno_none : PO X none (tO X.K g .no) := PO.imp po_none fun σ H Q ⟨Rt, env, A, rl, p⟩ => p none H A [] rl.sx ⟨rfl, rfl⟩
theorem sno_some (ha : PE X a (tE X.K g ia)) : PO X (some a) (tO X.K g (.so ia)) :=
  PO.imp (po_some ha) fun σ H Q ⟨Rt, env, A, rl, p⟩ => by
    refine ⟨Rt, env, A, rl, Post.seq p fun x e1 v H1 A1 B1 s1 o1 p1 => ?_⟩
    cases e : x.fz with
    | int i =>
      simp only [e] at p1
      exact ⟨i, fz_int e o1, p1 (some i) H1 A1 [] s1.drop0 ⟨rfl, rfl⟩⟩
    | _ => simp only [e] at p1; exact p1.elim
theorem FzL.cut {K : PySem.W.Frag} {H : Hp} {av : Addr → Prop} {ts : List T} {xs : List V} (h : FzL K H av ts xs) (n m : Nat) : FzL K H av ((ts.drop n).take m) ((xs.drop n).take m) := by
  have drp : ∀ (n : Nat) (ts : List T) (xs : List V), FzL K H av ts xs → FzL K H av (ts.drop n) (xs.drop n) := by
    intro n
    induction n with
    | zero => exact fun _ _ h => h
    | succ n ih =>
      intro ts xs h
      cases ts with
      | nil => cases (show xs = [] from h); exact h
      | cons t ts =>
        obtain ⟨v, r, rfl, _, h2⟩ := h
        exact ih ts r h2
  have tk : ∀ (m : Nat) (ts : List T) (xs : List V), FzL K H av ts xs → FzL K H av (ts.take m) (xs.take m) := by
    intro m
    induction m with
    | zero => exact fun _ _ h => rfl
    | succ m ih =>
      intro ts xs h
      cases ts with
      | nil => cases (show xs = [] from h); exact h
      | cons t ts =>
        obtain ⟨v, r, rfl, h1, h2⟩ := h
        exact ⟨v, r.take m, rfl, h1, ih ts r h2⟩
  exact tk m _ _ (drp n _ _ h)
theorem FzL.rev {K : PySem.W.Frag} {H : Hp} {av : Addr → Prop} : ∀ {ts : List T} {xs : List V}, FzL K H av ts xs → FzL K H av ts.reverse xs.reverse
  | [], xs, h => by cases (show xs = [] from h); exact rfl
  | t :: ts, xs, h => by
    obtain ⟨v, r, rfl, h1, h2⟩ := h
    rw [List.reverse_cons, List.reverse_cons]
    exact FzL.append (FzL.rev h2) ⟨v, [], rfl, h1, rfl⟩
theorem snd_sl {lo hi : Option Expr} {il ih : Eo} {p2 : Pos} (ha : PE X a (tE X.K g ia)) (hl : PO X lo (tO X.K g il)) (hh : PO X hi (tO X.K g ih)) : PE X (.Subscript a (.Slice lo hi none p2) pos) (tE X.K g (.sl ia il ih)) :=
  PE.imp (pe_slice sl_list ha hl hh) fun σ H Q ⟨Rt, env, A, rl, p⟩ => by
    refine ⟨Rt, env, A, rl, Post.seq p fun x e1 v H1 A1 B1 s1 o1 p1 => ?_⟩
    refine ⟨RtB B1 Rt, e1, A1, s1.rl, Post.seq2 s1 p1 fun l e2 l' H2 A2 B2 s2 o2 p2 => ?_⟩
    obtain ⟨rfl, rfl⟩ := o2
    have s12 := s1.next s2
    have w1 := s1.own s2 o1
    rw [List.append_nil] at s12 w1
    refine ⟨RtB B1 Rt, e2, A2, s12.rl, Post.seq2 s12 p2 fun h e3 h' H3 A3 B3 s3 o3 p3 => ?_⟩
    obtain ⟨rfl, rfl⟩ := o3
    have s13 := s12.next s3
    have w3 := s12.own s3 w1
    rw [List.append_nil] at s13 w3
    obtain ⟨w, ew, p4⟩ := Post.of p3
    have fz := s13.fz0 w3
    cases e : x.fz with
    | lst ts =>
      rw [e] at ew fz
      cases ew
      obtain ⟨q, xs, rfl, hq, _, hl⟩ := fz
      refine ⟨q, xs, rfl, .inl hq, fun p hp => ?_⟩
      have fc : FzL X.K H3 (Av (A3 ++ []) Rt) (cutT ts l' h') (cutV xs l' h') := by
        unfold cutT cutV
        rw [hl.len]
        exact hl.cut _ _
      obtain ⟨s4, o4⟩ := s13.made (Mk.fzl hp fc)
      exact p4 _ _ A3 _ s4 o4
    | _ => rw [e] at ew; cases ew
theorem snd_rev {k : Nat} {p1 p2 p3 : Pos} (ha : PE X a (tE X.K g ia)) : PE X (.Subscript a (.Slice none none (some (.UnaryOp .USub (.Constant (.int 1) k p1) p2)) p3) pos) (tE X.K g (.rev ia)) :=
  PE.imp (pe_revL ha) fun σ H Q ⟨Rt, env, A, rl, p⟩ => by
    refine ⟨Rt, env, A, rl, Post.seq p fun x e1 v H1 A1 B1 s1 o1 p1 => ?_⟩
    obtain ⟨w, ew, p4⟩ := Post.of p1
    have fz := s1.fz0 o1
    cases e : x.fz with
    | lst ts =>
      rw [e] at ew fz
      cases ew
      obtain ⟨q, xs, rfl, hq, _, hl⟩ := fz
      refine ⟨q, xs, rfl, .inl hq, fun p hp => ?_⟩
      obtain ⟨s4, o4⟩ := s1.made (Mk.fzl hp hl.rev)
      exact p4 _ _ A1 _ s4 o4
    | _ => rw [e] at ew; cases ew
/-! ### lists of ranges -/
theorem rgV_rngI (a : Int) (n : Nat) : (List.range n).map (fun i => V.int (a + (i : Nat))) = (rngI a n).map V.int := by
  induction n generalizing a with
  | zero => rfl
  | succ n ih =>
    rw [List.range_succ_eq_map, List.map_cons, List.map_map]
    show _ = V.int a :: (rngI (a + 1) n).map V.int
    rw [← ih (a + 1)]
    congr 1
    · simp
    · refine List.map_congr_left fun i _ => ?_
      show V.int (a + ((i + 1 : Nat) : Int)) = V.int (a + 1 + (i : Nat))
      congr 1
      omega
theorem snd_lrng1 {pr pl : Pos} (hc : X.calm = true) (hgl : Gl X "list") (hml : X.mg "list" = none) (hgr : Gl X "range") (hmr : X.mg "range" = none) (ha : PE X a (tE X.K g ia)) (hs : starEach [a] X.env = (false, eval a X.env) :: starEach [] X.env)
    : PE X (.Call (.Name "list" pl) [.Call (.Name "range" pr) [a] [] p0] [] pos) (tE X.K g (.lrng ia .no)) :=
  PE.imp (pe_listRg hc hgl hml (prg_1 hgr hmr ha hs) rfl) fun σ H Q ⟨Rt, env, A, rl, p⟩ => by
    refine ⟨Rt, env, A, rl, Post.seq p fun x e1 v H1 A1 B1 s1 o1 p1 => ?_⟩
    have p1' : Post X.K g (PO1 X.K) Rt σ H A (R.of ((rngT x.fz none).map fun is => .lst (is.map fun i => .val (.int i))) e1) Q := p1
    obtain ⟨w, ew, p4⟩ := Post.of p1'
    obtain ⟨is, ei, e2⟩ := Option.map_eq_some_iff.mp ew
    subst e2
    cases e : x.fz with
    | int n =>
      rw [e] at ei
      have ei' : (if okR n = true then some (rngI 0 n.toNat) else none) = some is := ei
      by_cases c : okR n = true
      · rw [if_pos c] at ei'
        cases ei'
        have c' := okR_of c
        refine ⟨n, fz_int e o1, ⟨by omega, by omega, by omega, by omega, by omega⟩, fun q hq => ?_⟩
        have er : rgV 0 n = (rngI 0 n.toNat).map V.int := by
          unfold rgV
          rw [Int.sub_zero]
          exact rgV_rngI 0 n.toNat
        rw [er]
        obtain ⟨s4, o4⟩ := s1.made (Mk.ints (rngI 0 n.toNat) hq)
        exact p4 _ _ A1 _ s4 o4
      · rw [if_neg c] at ei'; cases ei'
    | _ => rw [e] at ei; cases ei
theorem snd_lrng2 {pr pl : Pos} (hc : X.calm = true) (hgl : Gl X "list") (hml : X.mg "list" = none) (hgr : Gl X "range") (hmr : X.mg "range" = none) (ha : PE X a (tE X.K g ia)) (hb : PE X b (tE X.K g ib)) (hs : starEach [a, b] X.env = (false, eval a X.env) :: starEach [b] X.env) (hs2 : starEach [b] X.env = (false, eval b X.env) :: starEach [] X.env)
    : PE X (.Call (.Name "list" pl) [.Call (.Name "range" pr) [a, b] [] p0] [] pos) (tE X.K g (.lrng ia (.so ib))) :=
  PE.imp (pe_listRg hc hgl hml (prg_2 hgr hmr ha hb hs hs2 (by rw [hs2]; rfl)) rfl) fun σ H Q ⟨Rt, env, A, rl, p⟩ => by
    refine ⟨Rt, env, A, rl, Post.seq p fun x e1 v H1 A1 B1 s1 o1 p1 => ?_⟩
    have p1' : Post X.K g (PO1 X.K) Rt σ H A ((evE g.G g.C ib e1).bind fun w env1 => (match w.fz with | .int i => R.ok (some i) env1 | _ => .no).bind fun (y : Option Int) env2 => R.of ((rngT x.fz y).map fun (is : List Int) => .lst (is.map fun i => .val (.int i))) env2) Q := by
      have : Post X.K g (PO1 X.K) Rt σ H A (((evE g.G g.C ib e1).bind fun w env1 => (match w.fz with | .int i => R.ok (some i) env1 | _ => .no)).bind fun (y : Option Int) env2 => R.of ((rngT x.fz y).map fun (is : List Int) => .lst (is.map fun i => .val (.int i))) env2) Q := p1
      cases er : evE g.G g.C ib e1 with
      | ok w e2 => rw [er] at this; exact this
      | exc c t e2 => rw [er] at this; exact this
      | no => rw [er] at this; exact this
    refine ⟨RtB B1 Rt, e1, A1, s1.rl, Post.seq2 s1 p1' fun y e2 v2 H2 A2 B2 s2 o2 p2 => ?_⟩
    have s3 := s1.next s2
    cases ey : y.fz with
    | int j =>
      simp only [ey] at p2
      have p2' : Post X.K g (PO1 X.K) Rt σ H A (R.of ((rngT x.fz (some j)).map fun is => .lst (is.map fun i => .val (.int i))) e2) Q := p2
      obtain ⟨w, ew, p4⟩ := Post.of p2'
      obtain ⟨is, ei, e4⟩ := Option.map_eq_some_iff.mp ew
      subst e4
      cases e : x.fz with
      | int n =>
        rw [e] at ei
        have ei' : (if (okR n && okR j) = true then some (rngI n (j - n).toNat) else none) = some is := ei
        by_cases c : (okR n && okR j) = true
        · rw [if_pos c] at ei'
          cases ei'
          rw [Bool.and_eq_true] at c
          have c1 := okR_of c.1
          have c2 := okR_of c.2
          refine ⟨n, j, fz_int e o1, fz_int ey o2, ⟨by omega, by omega, by omega, by omega, by omega⟩, fun q hq => ?_⟩
          have er : rgV n j = (rngI n (j - n).toNat).map V.int := rgV_rngI n _
          rw [er]
          obtain ⟨s4, o4⟩ := s3.made (Mk.ints (rngI n (j - n).toNat) hq)
          exact p4 _ _ A2 _ s4 o4
        · rw [if_neg c] at ei'; cases ei'
      | _ => rw [e] at ei; cases ei
    | _ => simp only [ey] at p2; exact p2.elim
end
end Ev
/-! Ev13: items of owned lists; len and sorted of sets. -/
namespace Ev
open PySem L2
section
variable {X : Cx} {g : Cfg} {pos p0 : Pos} {a b c : Expr} {ia ib ic : E}
theorem IxR.imp {r r' : R2} (h : IxR X r) (i : ∀ x y H Q, r' x y H Q → r x y H Q) : IxR X r' :=
  fun value slice pins s σ H x y v u Q I rx ry q hs => h value slice pins s σ H x y v u Q I rx ry (i x y H Q q) hs
theorem OwnL.get {K : PySem.W.Frag} {H : Hp} {av : Addr → Prop} : ∀ {ws : List W} {xs : List V} {D : List Addr} {n : Nat} {t : T}, OwnL K H av ws xs D → ws[n]? = some (.val t) → ∃ v, xs[n]? = some v ∧ Fz K H av t v
  | [], _, _, _, _, _, e => by simp at e
  | w :: ws, xs, D, 0, t, h, e => by
    obtain ⟨v, r, B1, B2, rfl, rfl, h1, h2⟩ := h
    have e' : w = .val t := by simpa using e
    subst e'
    exact ⟨v, rfl, h1.2⟩
  | w :: ws, xs, D, n + 1, t, h, e => by
    obtain ⟨v, r, B1, B2, rfl, rfl, h1, h2⟩ := h
    obtain ⟨z, e1, e2⟩ := OwnL.get (n := n) h2 (by simpa using e)
    exact ⟨z, by simpa using e1, e2⟩
theorem ix_dict (hu : X.A.units + 64 < cLine) : IxR X fun x y H Q => ∃ a z, x = .ref a ∧ DGet H a y (some z) ∧ Q z H := by
  intro value slice pins s σ H x y v u Q I rx ry h hs
  obtain ⟨a, z, rfl, g, q⟩ := h
  obtain rfl : v = Value.ref a := rx
  exact dict_tail (dict_typeIs I g) (d_getItem (by omega) I g ry fun w' s3 I3 rw' => ⟨z, H, I3, rw', q⟩) hs
theorem OwnL.getN {K : PySem.W.Frag} {H : Hp} {av : Addr → Prop} {k : Key} {t : T} : ∀ {kvs : List (Key × V)} {ks : List Key} {ws : List W} {xs : List V} {D : List Addr}, kvs.map (·.1) = ks → kvs.map (·.2) = xs → OwnL K H av ws xs D → Ev.getN ks ws k = some (.val t) → ∃ v, valV kvs k = some v ∧ Fz K H av t v
  | [], ks, ws, xs, D, e1, e2, h, e => by
    subst e1
    cases ws <;> cases e
  | p :: r, ks, [], xs, D, e1, e2, h, e => by
    subst e1
    cases e
  | p :: r, ks, w :: ws, xs, D, e1, e2, h, e => by
    subst e1 e2
    obtain ⟨v, r', B1, B2, e3, rfl, h1, h2⟩ := h
    obtain ⟨e4, e5⟩ := List.cons.inj (show p.2 :: r.map (·.2) = v :: r' from e3)
    have e' : (if p.1 = k then some w else Ev.getN (r.map (·.1)) ws k) = some (.val t) := e
    by_cases c : p.1 = k
    · rw [if_pos c] at e'
      cases e'
      exact ⟨v, by rw [valV_pos c, e4], h1.2⟩
    · rw [if_neg c] at e'
      obtain ⟨z, g1, g2⟩ := OwnL.getN (kvs := r) rfl e5 h2 e'
      exact ⟨z, by rw [valV_neg c]; exact g1, g2⟩
theorem snd_rdx {i : Nat} {x : Str} (hu : X.A.units + 64 < cLine) (hN : X.N[i]? = some x) (hv : Vis X.env.scope x) (hd : (x == ("__debug__" : Str)) = false) (hcd : (x == ("__classdict__" : Str)) = false) (hb : PE X b (tE X.K g ib)) (hs : PlainIx b) : PE X (.Subscript (.Name x p0) b pos) (tE X.K g (.rdx i ib)) :=
  PE.imp (pe_ix (L2.IxR.or (L2.IxR.or (ix_all hu) ix_list) (ix_dict hu)) (pe_var hN hv hd hcd) hb hs) fun σ H Q ⟨Rt, env, A, rl, p⟩ => by
    have p' : Post X.K g (PO1 X.K) Rt σ H A (match env[i]? with
      | some (some _) => (evE g.G g.C ib env).bind fun k env1 => (match env1[i]? with
        | some (some (.val a)) => R.of ((ixT a k.fz).map .val) env1
        | some (some (.lst ws)) => (match k.fz with
          | .int j => (match atI ws j with
            | some (.val t) => .ok (.val t) env1
            | _ => .no)
          | _ => .no)
        | some (some (.nd (.dct ks) ws)) => (match (keyT k.fz).bind (Ev.getN ks ws) with
          | some (.val t) => .ok (.val t) env1
          | _ => .no)
        | _ => .no)
      | _ => .no) Q := p
    cases e : env[i]? with
    | none => rw [e] at p'; exact p'.elim
    | some o =>
    cases o with
    | none => rw [e] at p'; exact p'.elim
    | some w0 =>
      rw [e] at p'
      obtain ⟨_, _, _, _, _, hw, _⟩ := RE.slot env σ A i rl.re (List.getElem?_eq_some_iff.mp e).1
      obtain ⟨v, ev, _⟩ := hw w0 e
      refine ⟨v, ev, Rt, env, A, rl, Post.seq p' fun k e1 u H1 A1 B1 s1 o1 p1 => ?_⟩
      have p2 : Post X.K g (PO1 X.K) Rt σ H A (match e1[i]? with
        | some (some (.val a)) => R.of ((ixT a k.fz).map .val) e1
        | some (some (.lst ws)) => (match k.fz with
          | .int j => (match atI ws j with
            | some (.val t) => .ok (.val t) e1
            | _ => .no)
          | _ => .no)
        | some (some (.nd (.dct ks) ws)) => (match (keyT k.fz).bind (Ev.getN ks ws) with
          | some (.val t) => .ok (.val t) e1
          | _ => .no)
        | _ => .no) Q := p1
      have s0 := s1.drop0
      cases e2 : e1[i]? with
      | none => rw [e2] at p2; exact p2.elim
      | some o =>
      cases o with
      | none => rw [e2] at p2; exact p2.elim
      | some w1 =>
      obtain ⟨_, D, _, eA, _, hw1, _⟩ := RE.slot e1 σ A1 i s0.re (List.getElem?_eq_some_iff.mp e2).1
      obtain ⟨v1, ev1, ow1⟩ := hw1 w1 e2
      rw [ev] at ev1
      cases ev1
      cases w1 with
      | set t => rw [e2] at p2; exact p2.elim
      | nd n ws =>
        cases n with
        | dcl _ => rw [e2] at p2; exact p2.elim
        | ins _ _ => rw [e2] at p2; exact p2.elim
        | dct ks =>
          rw [e2] at p2
          have p3 : Post X.K g (PO1 X.K) Rt σ H A (match (keyT k.fz).bind (Ev.getN ks ws) with
            | some (.val t) => .ok (.val t) e1
            | _ => .no) Q := p2
          cases eg : (keyT k.fz).bind (Ev.getN ks ws) with
          | none => rw [eg] at p3; exact p3.elim
          | some w2 =>
            cases w2 with
            | val t =>
              rw [eg] at p3
              obtain ⟨j, ej, e3⟩ := Option.bind_eq_some_iff.mp eg
              obtain ⟨q, xs, o, D', rfl, rfl, hq, ⟨⟨kvs, rfl, f1, f2, _⟩, _⟩, hl⟩ := ow1
              obtain ⟨z, g1, g2⟩ := OwnL.getN f1 f2 hl e3
              exact .inr ⟨q, z, rfl, .inl ⟨kvs, j, .inl hq, (key_w ej o1).1, g1.symm⟩, p3 z H1 A1 [] s0 ⟨rfl, g2⟩⟩
            | lst _ => rw [eg] at p3; exact p3.elim
            | nd _ _ => rw [eg] at p3; exact p3.elim
            | set _ => rw [eg] at p3; exact p3.elim
      | val t =>
        rw [e2] at p2
        obtain ⟨w, ew, p3⟩ := Post.of p2
        refine .inl (.inl ⟨_, t, k.fz, w, ow1.2, s1.fz0 o1, ew, fun z H' B mk => ?_⟩)
        obtain ⟨s4, o4⟩ := s0.made mk
        exact p3 z H' A1 B s4 o4
      | lst ws =>
        rw [e2] at p2
        cases ek : k.fz with
        | int j =>
          simp only [ek] at p2
          cases ea : atI ws j with
          | none => simp only [ea] at p2; exact p2.elim
          | some w2 =>
            cases w2 with
            | val t =>
              simp only [ea] at p2
              obtain ⟨q, xs, D', rfl, rfl, hq, hl⟩ := ow1
              unfold atI at ea
              cases en : L2.ixN ws.length j with
              | none => rw [en] at ea; cases ea
              | some n =>
                rw [en] at ea
                obtain ⟨z, ez, fz⟩ := OwnL.get hl ea
                refine .inl (.inr ⟨q, xs, j, z, rfl, fz_int ek o1, SqL.of hq, ?_, p2 z H1 A1 [] s0 ⟨rfl, fz⟩⟩)
                unfold atI
                rw [← OwnL.len _ _ _ hl, en]
                exact ez
            | lst _ => simp only [ea] at p2; exact p2.elim
            | set _ => simp only [ea] at p2; exact p2.elim
            | nd _ _ => simp only [ea] at p2; exact p2.elim
        | _ => simp only [ek] at p2; exact p2.elim
end
/-! ### sets of ints -/
theorem addI_mem {acc : List Int} {k j : Int} : j ∈ addI acc k ↔ j ∈ acc ∨ j = k := by
  unfold addI
  by_cases c : acc.contains k = true
  · rw [if_pos c]
    exact ⟨.inl, fun h => h.elim id fun e => e ▸ List.contains_iff_mem.mp c⟩
  · rw [if_neg c, List.mem_append, List.mem_singleton]
theorem SetIs.add {S : Int → Bool} {n : Nat} {is : List Int} (h : SetIs S n is) (k : Int) : SetIs (fun j => S j || decide (j = k)) (if S k = true then n else n + 1) (addI is k) := by
  have hk : S k = true ↔ is.contains k = true := (h.mem k).trans List.contains_iff_mem.symm
  refine ⟨fun j => ?_, ?_, ?_⟩
  · rw [addI_mem, Bool.or_eq_true, decide_eq_true_eq, h.mem j]
  · unfold addI
    by_cases c : is.contains k = true
    · rw [if_pos c]; exact h.nd
    · rw [if_neg c]
      refine List.nodup_append.mpr ⟨h.nd, List.nodup_cons.mpr ⟨fun z => (by cases z), List.nodup_nil⟩, fun a ha b hb e => c ?_⟩
      rw [List.mem_singleton.mp hb] at e
      exact List.contains_iff_mem.mpr (e ▸ ha)
  · unfold addI
    by_cases c : is.contains k = true
    · rw [if_pos c, if_pos (hk.mpr c)]; exact h.len
    · rw [if_neg c, if_neg (fun z => c (hk.mp z)), List.length_append, h.len]; rfl
theorem SetIs.nil : SetIs (fun _ => false) 0 [] := ⟨fun i => by simp, List.nodup_nil, rfl⟩
theorem dedI_is : ∀ (ns acc : List Int) (S : Int → Bool) (n : Nat), SetIs S n acc → ∃ S' n', SetIs S' n' (dedI acc ns) ∧ ∀ j, S' j = true ↔ (S j = true ∨ j ∈ ns)
  | [], acc, S, n, h => ⟨S, n, h, fun j => ⟨.inl, fun z => z.elim id fun z => by cases z⟩⟩
  | i :: r, acc, S, n, h => by
    obtain ⟨S', n', h1, h2⟩ := dedI_is r _ _ _ (h.add i)
    refine ⟨S', n', h1, fun j => ?_⟩
    rw [h2 j, Bool.or_eq_true, decide_eq_true_eq, List.mem_cons]
    constructor
    · rintro ((z | z) | z)
      · exact .inl z
      · exact .inr (.inl z)
      · exact .inr (.inr z)
    · rintro (z | z | z)
      · exact .inl (.inl z)
      · exact .inl (.inr z)
      · exact .inr z
theorem nodup_len {l m : List Int} (hl : l.Nodup) (hm : m.Nodup) (h : ∀ j, j ∈ l ↔ j ∈ m) : l.length = m.length := by
  refine List.Perm.length_eq ?_
  rw [List.perm_iff_count]
  intro a
  have h1 := List.nodup_iff_count.mp hl a
  have h2 := List.nodup_iff_count.mp hm a
  by_cases c : a ∈ l
  · have := List.count_pos_iff.mpr c
    have := List.count_pos_iff.mpr ((h a).mp c)
    omega
  · rw [List.count_eq_zero.mpr c, List.count_eq_zero.mpr fun z => c ((h a).mpr z)]
theorem setR_is {w : World} {h : Heap} {p : Addr} {ns : List Int} {c : Nat} (R : SetR w h p (fun j => decide (j ∈ ns)) c) : SetIs (fun j => decide (j ∈ ns)) c (dedI [] ns) := by
  obtain ⟨S', n', h1, h2⟩ := dedI_is ns [] _ 0 SetIs.nil
  obtain ⟨o, es, ep, t, _, _, _, _, nd, mem, _, _, sz, _⟩ := R
  have mm : ∀ j, j ∈ dedI [] ns ↔ j ∈ ns := fun j => by
    rw [← h1.mem j, h2 j]
    exact ⟨fun z => z.elim (fun z => by cases z) id, .inr⟩
  refine ⟨fun j => by rw [decide_eq_true_eq, mm j], h1.nd, ?_⟩
  rw [← sz]
  have e : es.size = (es.toList.map keyOf).length := by rw [List.length_map, Array.length_toList]
  rw [e]
  exact nodup_len nd h1.nd fun j => by rw [← mem j, decide_eq_true_eq, mm j]
section
variable (K : PySem.W.Frag) (w : World) (g : Cfg)
def PZ : List Int → V → Hp → (Addr → Prop) → List Addr → Prop := fun is v H _ B => ∃ a S n, v = .ref a ∧ B = [a] ∧ H a = some (SetO w a S n) ∧ SetIs S n is ∧ n < 4096
def tZ (z : Se) : TE := fun σ H Q => ∃ Rt env A, Rl K Rt H σ env A ∧ Post K g (PZ w) Rt σ H A (evSe g.G g.C z env) Q
end
section
variable {X : Cx} {g : Cfg} {pos p0 : Pos} {a b c : Expr} {ia ib ic : E} {z : Se}
theorem cr_setL2 (hc : X.calm = true) : CallR X (.type "set") (fun vs H Q => ∃ (a : Addr) (ns : List Int), vs = [V.ref a] ∧ SqL X.K H a (ns.map V.int) ∧ ns.length + 1 < scanBound ∧ ∀ p S c, SetIs S c (dedI [] ns) → H p = none → Q (.ref p) (upd H p (SetO X.w p S c))) := by
  intro pins s σ H vs us Q I r h
  obtain ⟨a, ns, rfl, hs, hb, q⟩ := h
  obtain ⟨its, rv, hl, _⟩ := I.list hs
  rw [Vals.ref1 r]
  refine call_setL ns (I.ok.hd hc) hl.isList rv.ints hb fun h' tk c R kp => ?_
  exact ⟨.ref _, upd H s.heap.objs.size (SetO X.w s.heap.objs.size (fun j => decide (j ∈ ns)) c), I.laid (t' := tk) kp (Nat.le_refl _) (setO_new R), rfl, q _ _ _ (setR_is R) (I.hok.fresh (Nat.le_refl _))⟩
theorem dedI_le : ∀ (ns acc : List Int), (dedI acc ns).length ≤ acc.length + ns.length
  | [], acc => Nat.le_refl _
  | i :: r, acc => by
    have h := dedI_le r (addI acc i)
    have h2 : (addI acc i).length ≤ acc.length + 1 := by
      unfold addI
      by_cases c : acc.contains i = true
      · rw [if_pos c]; omega
      · rw [if_neg c, List.length_append]; exact Nat.le_refl _
    show (dedI (addI acc i) r).length ≤ _
    rw [List.length_cons]
    omega
theorem snz_of {x : Str} (hx : x = "set") (hc : X.calm = true) (hg : Gl X x) (hm : X.mg x = none) (ha : PE X a (tE X.K g ia)) (hs : starEach [a] X.env = (false, eval a X.env) :: starEach [] X.env) : PE X (.Call (.Name x p0) [a] [] pos) (tZ X.K X.w g (.of ia)) := by
  subst hx
  refine PE.imp (pe_callTy (t := tCons (tE X.K g ia) tNil) (cr_setL2 hc) hg hm rfl (pa_cons ha pa_nil hs) (by decide) (by decide) hs rfl) fun σ H Q ⟨Rt, env, A, rl, p⟩ => ?_
  refine ⟨Rt, env, A, rl, Post.seq p fun x e1 v H1 A1 B1 s1 o1 p1 => ?_⟩
  have fz := s1.fz0 o1
  cases e : x.fz with
  | lst ts =>
    simp only [e] at p1
    rw [e] at fz
    cases ei : T.ints ts with
    | none => simp only [ei] at p1; exact p1.elim
    | some is =>
      simp only [ei] at p1
      have p2 : Post X.K g (PZ X.w) Rt σ H A (if decide (is.length < 4095) = true then .ok (dedI [] is) e1 else .no) Q := p1
      by_cases c : decide (is.length < 4095) = true
      · rw [if_pos c] at p2
        obtain ⟨q, xs, rfl, hq, _, hl⟩ := fz
        have ez := ints_sq ei hl
        subst ez
        have c' := of_decide_eq_true c
        refine ⟨q, is, rfl, .inl hq, (by show is.length + 1 < 4096; omega), fun p S n si hp => ?_⟩
        refine p2 (.ref p) _ A1 [p] (s1.drop0.new hp) ⟨p, S, n, rfl, rfl, upd_same, si, ?_⟩
        have := dedI_le is []
        rw [si.len]
        simp only [List.length_nil] at this
        omega
      · rw [if_neg c] at p2; exact p2.elim
  | _ => simp only [e] at p1; exact p1.elim
theorem snd_lenS {x : Str} (hx : x = "len") (hg : Gl X x) (hm : X.mg x = none) (ha : PE X a (tZ X.K X.w g z)) (hs : starEach [a] X.env = (false, eval a X.env) :: starEach [] X.env) : PE X (.Call (.Name x p0) [a] [] pos) (tE X.K g (.lenS z)) := by
  subst hx
  refine PE.imp (pe_callB (t := tCons (tZ X.K X.w g z) tNil) cr_lenSet hg hm rfl (pa_cons ha pa_nil hs) (by decide) (by decide) hs rfl) fun σ H Q ⟨Rt, env, A, rl, p⟩ => ?_
  refine ⟨Rt, env, A, rl, Post.seq p fun is e1 v H1 A1 B1 s1 o1 p1 => ?_⟩
  obtain ⟨q, S, n, rfl, rfl, hq, si, hn⟩ := o1
  refine ⟨q, S, n, rfl, hq, hn, ?_⟩
  rw [si.len]
  exact p1 (.int is.length) H1 A1 [] s1.drop0 ⟨rfl, rfl⟩
theorem snd_srtS {x : Str} (hx : x = "sorted") (hc : X.calm = true) (hg : Gl X x) (hm : X.mg x = none) (ha : PE X a (tZ X.K X.w g z)) (hs : starEach [a] X.env = (false, eval a X.env) :: starEach [] X.env) : PE X (.Call (.Name x p0) [a] [] pos) (tE X.K g (.srtS z)) := by
  subst hx
  refine PE.imp (pe_callB (t := tCons (tZ X.K X.w g z) tNil) (cr_sortedSet hc) hg hm rfl (pa_cons ha pa_nil hs) (by decide) (by decide) hs rfl) fun σ H Q ⟨Rt, env, A, rl, p⟩ => ?_
  refine ⟨Rt, env, A, rl, Post.seq p fun is e1 v H1 A1 B1 s1 o1 p1 => ?_⟩
  obtain ⟨q, S, n, rfl, rfl, hq, si, hn⟩ := o1
  have p2 : Post X.K g (PO1 X.K) Rt σ H A (if decide (is.length < 64) = true then .ok (.lst ((sortI is).map fun i => .val (.int i))) e1 else .no) Q := p1
  by_cases c : decide (is.length < 64) = true
  · rw [if_pos c] at p2
    refine ⟨q, S, n, rfl, hq, by rw [si.len]; exact of_decide_eq_true c, fun ns p ps pm pl hp => ?_⟩
    have e : ns = sortI is := by
      refine srt_uniq ?_ (ps.imp fun h => Int.le_of_lt h) (sortI_srt is)
      refine List.Perm.trans ?_ (sortI_perm is).symm
      rw [List.perm_iff_count]
      intro j
      have hnd : ns.Nodup := ps.imp fun h => Int.ne_of_lt h
      have h1 := List.nodup_iff_count.mp hnd j
      have h2 := List.nodup_iff_count.mp si.nd j
      have h3 : j ∈ ns ↔ j ∈ is := (pm j).trans (si.mem j)
      by_cases d : j ∈ ns
      · have := List.count_pos_iff.mpr d
        have := List.count_pos_iff.mpr (h3.mp d)
        omega
      · rw [List.count_eq_zero.mpr d, List.count_eq_zero.mpr fun z => d (h3.mpr z)]
    subst e
    obtain ⟨s4, o4⟩ := s1.made (Mk.ints (sortI is) hp)
    exact p2 _ _ A1 _ s4 o4
  · rw [if_neg c] at p2; exact p2.elim
end
end Ev
/-! Ev14: set comprehensions of ints; list(range(a, b, c)). -/
namespace Ev
open PySem L2
section
variable {X : Cx} {g : Cfg}
theorem addI_len (acc : List Int) (k : Int) : (addI acc k).length ≤ acc.length + 1 := by
  unfold addI
  by_cases c : acc.contains k = true
  · rw [if_pos c]; omega
  · rw [if_neg c, List.length_append]; exact Nat.le_refl _
theorem sc_ev {own : List Nat} {tgi : Tg} {it : Ev.It} {cs : Tts} {e : E} {σ : St} {H : Hp} {Q : VK} (hlen : ∀ i ∈ tgs tgi, i < X.N.length) (hσ : σ.length = X.N.length) (h : tZ X.K X.w g (.sc own tgi it cs e) σ H Q) :
    tSg (fun p => SetO X.w p (fun _ => false) 0) (rSAdd X.w) (tI X.K g it) (gT X.K tgi) (tTs X.K g.mute cs) (tE X.K g.mute e) own σ H Q := by
  obtain ⟨Rt, env, A, rl, p⟩ := h
  have hel : env.length = X.N.length := by rw [RE.len _ _ _ rl.re, hσ]
  refine ⟨Rt, env, A, rl, Post.seqE p fun ts e1 J H1 A1 B1 er s1 o1 p1 => ?_⟩
  obtain ⟨rfl, P, jt, pP⟩ := o1
  intro D hD
  have p2 : Post X.K g (PZ X.w) Rt σ H A (if (hidOk e1 own && tgIn tgi own) = true then (match scL tgi own (evTs g.G g.C cs) (evE g.G g.C e) ts [] (wipeE e1 own) with
    | .ok is env2 => .ok is (backE e1 env2 own)
    | _ => .no) else .no) Q := p1
  have c0 : (hidOk e1 own && tgIn tgi own) = true := by
    by_cases c : (hidOk e1 own && tgIn tgi own) = true
    · exact c
    · rw [if_neg c] at p2; exact p2.elim
  rw [if_pos c0] at p2
  rw [Bool.and_eq_true] at c0
  obtain ⟨hid, tin⟩ := c0
  have bare := hidOk_of hid
  cases el : scL tgi own (evTs g.G g.C cs) (evE g.G g.C e) ts [] (wipeE e1 own) with
  | exc _ _ _ => rw [el] at p2; exact p2.elim
  | no => rw [el] at p2; exact p2.elim
  | ok isF envF =>
  rw [el] at p2
  have re1 : RE X.K H1 (Av (A1 ++ []) Rt) e1 σ A1 := s1.re
  have olds : ∀ (Hc : Hp) (A' : List Addr), Go A1 H1 A' Hc → ∀ j ∈ own, e1[j]? = some none ∨ ∃ t v, e1[j]? = some (some (.val t)) ∧ σ[j]? = some (some v) ∧ Fz X.K Hc (Av A' Rt) t v := fun Hc A' go j hj => by
    rcases bare j hj with z | ⟨t, z⟩
    · exact .inl z
    · obtain ⟨_, _, _, _, _, hw, _⟩ := RE.slot e1 σ A1 j re1 (List.getElem?_eq_some_iff.mp z).1
      obtain ⟨v, ev, ow⟩ := hw _ z
      refine .inr ⟨t, v, z, ev, Fz.mono (fun b o q n => go.keep b o q fun z => n (.inl (List.mem_append_left _ z))) go.tups (fun b z => ?_) t v ow.2⟩
      rcases z with z | z
      · exact (go.new b z).imp (fun z => .inl (List.mem_append_left _ z)) id
      · exact .inl (.inr z)
  have tgin : ∀ i ∈ tgs tgi, i ∈ own := fun i hi => by
    cases tgi with
    | var k =>
      rcases List.mem_cons.mp hi with rfl | z
      · exact List.contains_iff_mem.mp tin
      · cases z
    | tup is => exact List.contains_iff_mem.mp (List.all_eq_true.mp tin i hi)
  let St8 : Nat → Hp → Prop := fun i Hc => ∃ envi Ai acc, scL tgi own (evTs g.G g.C cs) (evE g.G g.C e) (ts.drop i) acc envi = .ok isF envF ∧ Sx X.K Rt (L2.wipe σ own) H A Hc envi Ai [D] ∧
      (∃ S n, Hc D = some (SetO X.w D S n) ∧ SetIs S n acc) ∧ acc.length < 4096 ∧ P Hc (Av (Ai ++ [D]) Rt) ∧ Go A1 H1 (Ai ++ [D]) Hc ∧ ∀ j ∈ own, envi[j]? = some none
  refine ⟨fun i m Hc => m = ts.length - i ∧ i ≤ ts.length ∧ St8 i Hc, ⟨ts.length, ?_⟩, ?_⟩
  · have s2 : Sx X.K Rt σ H A (upd H1 D (SetO X.w D (fun _ => false) 0)) e1 A1 [D] := s1.new hD
    refine ⟨by simp, Nat.zero_le _, wipeE e1 own, A1, [], by simpa using el, ⟨s2.go, s2.nd, s2.rt, s2.th, s2.bth, RE.wipe own bare s2.re⟩, ⟨_, _, upd_same, SetIs.nil⟩, (by decide), ?_, ?_, fun j hj => wipeE_none own j hj (bare j hj).lt⟩
    · exact jt.mono _ _ _ _ pP (fun b o q _ => newkeep hD b o q) (newtups hD) (Sx.newav hD)
    · exact ((Go.refl (A := A1) (H := H1)).upd hD).sub fun b hb => by
        rcases List.mem_append.mp hb with z | z
        · exact List.mem_cons_of_mem _ z
        · rcases List.mem_cons.mp z with rfl | z
          · exact List.mem_cons_self
          · cases z
  · rintro i m Hc ⟨rfl, hile, envi, Ai, acc, eL, sx, ⟨S, n, hS, si⟩, hacc, pH, go, nones⟩
    by_cases hlt : i < ts.length
    · have et : ts.drop i = ts[i] :: ts.drop (i + 1) := List.drop_eq_getElem_cons hlt
      have gi : ts[i]? = some ts[i] := List.getElem?_eq_getElem hlt
      rw [et] at eL
      have eL0 : (match tgE tgi ts[i] envi with
        | none => R.no
        | some env1 => (evTs g.G g.C cs env1).bind fun b env2 => match b with
          | true => (evE g.G g.C e env2).bind fun w env3 => match w.fz with
            | .int k => if (decide (acc.length < 4095) && hidOk env3 own) = true then scL tgi own (evTs g.G g.C cs) (evE g.G g.C e) (ts.drop (i + 1)) (addI acc k) (wipeE env3 own) else .no
            | _ => .no
          | false => if hidOk env2 own = true then scL tgi own (evTs g.G g.C cs) (evE g.G g.C e) (ts.drop (i + 1)) acc (wipeE env2 own) else .no) = .ok isF envF := eL
      cases etg : tgE tgi ts[i] envi with
      | none => rw [etg] at eL0; cases eL0
      | some env1 =>
      rw [etg] at eL0
      obtain ⟨b, env2, eb, eL1⟩ := bind_ok eL0
      refine .inr ⟨jt.go Hc _ i _ pH gi, St8 (i + 1), fun Hn w => ⟨ts.length - (i + 1), by omega, rfl, hlt, w⟩, fun x Hy y => ?_⟩
      obtain ⟨ext, fx⟩ := jt.yld Hc _ i _ x Hy pH gi y
      have sx1 := sx.ext ext
      have hS1 : Hy D = some (SetO X.w D S n) := ext D _ hS
      have pH1 : P Hy (Av (Ai ++ [D]) Rt) := jt.mono _ _ _ _ pH (fun b o q _ => ext b o q) (fun b xs q => Rd.mono q fun o q => ext b o q) (fun b z => .inl z)
      have go1 : Go A1 H1 (Ai ++ [D]) Hy := ⟨fun b o q n => ext b o (go.keep b o q n), fun b xs q => Rd.mono (go.tups b xs q) fun o q => ext b o q, go.new⟩
      have elen : envi.length = X.N.length := by rw [RE.len _ _ _ sx.re, wipe_length, hσ]
      have fx1 : Fz X.K Hy (Av Ai (RtB [D] Rt)) ts[i] x := Fz.mono (fun _ _ q _ => q) (fun _ _ q => q) (fun b z => .inl (by
        rcases z with z | z | z
        · exact .inl (List.mem_append_left _ z)
        · exact .inl (List.mem_append_right _ z)
        · exact .inr z)) _ _ fx
      refine tg_ok tgi (fun j hj => by rw [elen]; exact hlen j hj) sx1.rl fx1 etg fun σ2 A2 sub rl2 kσ => ?_
      have l2 : σ2.length = σ.length := by
        rw [← RE.len _ _ _ rl2.re, tgE_len etg, elen, hσ]
      have weq : L2.wipe σ2 own = L2.wipe σ own := by
        refine wipe_eq l2 fun j hj => ?_
        rw [kσ j (fun z => hj (tgin j z)), wipe_out hj]
      refine ⟨weq, RtB [D] Rt, env1, A2, rl2, ?_⟩
      have sxT : Sx X.K Rt σ2 H A Hy env1 A2 [D] := sx1.retg rl2 sub
      have suba : ∀ b, Av (A2 ++ [D]) Rt b → Av (Ai ++ [D]) Rt b := fun b z => by
        rcases z with z | z
        · rcases List.mem_append.mp z with z | z
          · exact .inl (List.mem_append_left _ (sub b z))
          · exact .inl (List.mem_append_right _ z)
        · exact .inr z
      have pT : P Hy (Av (A2 ++ [D]) Rt) := jt.mono _ _ _ _ pH1 (fun _ _ q _ => q) (fun _ _ q => q) (fun b z => .inl (suba b z))
      have goT : Go A1 H1 (A2 ++ [D]) Hy := go1.sub fun b hb => by
        rcases List.mem_append.mp hb with z | z
        · exact List.mem_append_left _ (sub b z)
        · exact List.mem_append_right _ z
      show Post X.K g.mute PBl (RtB [D] Rt) σ2 Hy A2 (evTs g.G g.C cs env1) _
      rw [eb]
      intro b' H3 A3 B3 s3 hb3
      obtain ⟨e3, e4⟩ := hb3
      subst e3 e4
      have hS3 : H3 D = some (SetO X.w D S n) := s3.go.keep D _ hS1 (sxT.out List.mem_cons_self)
      have s4 : Sx X.K Rt σ2 H A H3 env2 A3 [D] := sxT.next s3
      have p3 : P H3 (Av (A3 ++ [D]) Rt) := sxT.nextP jt s3 pT
      have go3 : Go A1 H1 (A3 ++ [D]) H3 := goT.trans (show Go A2 Hy A3 H3 from s3.go.sub fun b hb => List.mem_append_left _ hb)
      cases b' with
      | false =>
        have eL2 : (if hidOk env2 own = true then scL tgi own (evTs g.G g.C cs) (evE g.G g.C e) (ts.drop (i + 1)) acc (wipeE env2 own) else .no) = .ok isF envF := eL1
        by_cases c : hidOk env2 own = true
        · rw [if_pos c] at eL2
          have b2 := hidOk_of c
          have rw2 := RE.wipe own b2 s4.re
          rw [weq] at rw2
          exact ⟨wipeE env2 own, A3, acc, eL2, ⟨s4.go, s4.nd, s4.rt, s4.th, s4.bth, rw2⟩, ⟨S, n, hS3, si⟩, hacc, p3, go3, fun j hj => wipeE_none own j hj (b2 j hj).lt⟩
        · rw [if_neg c] at eL2; cases eL2
      | true =>
        obtain ⟨w, env3, ew, eL2⟩ := bind_ok (show ((evE g.G g.C e env2).bind fun w env3 => match w.fz with
            | .int k => if (decide (acc.length < 4095) && hidOk env3 own) = true then scL tgi own (evTs g.G g.C cs) (evE g.G g.C e) (ts.drop (i + 1)) (addI acc k) (wipeE env3 own) else .no
            | _ => .no) = .ok isF envF from eL1)
        refine ⟨RtB [D] Rt, env2, A3, s4.rl, ?_⟩
        show Post X.K g.mute (PO1 X.K) (RtB [D] Rt) σ2 H3 A3 (evE g.G g.C e env2) _
        rw [ew]
        intro yv H4 A4 B4 s5 o5
        cases ek : w.fz with
        | int k =>
          simp only [ek] at eL2
          have eB := fzo_int ek o5
          subst eB
          have ev := fz_int ek o5
          subst ev
          have hS4 : H4 D = some (SetO X.w D S n) := s5.go.keep D _ hS3 (s4.out List.mem_cons_self)
          have s6 : Sx X.K Rt σ2 H A H4 env3 A4 [D] := s4.next s5
          have p4 : P H4 (Av (A4 ++ [D]) Rt) := s4.nextP jt s5 p3
          have go4 : Go A1 H1 (A4 ++ [D]) H4 := (go3.trans s5.go).sub fun b hb => by
            rcases List.mem_append.mp hb with z | z
            · exact List.mem_append_left _ (List.mem_append_left _ z)
            · exact List.mem_append_right _ z
          by_cases c : (decide (acc.length < 4095) && hidOk env3 own) = true
          · rw [if_pos c] at eL2
            rw [Bool.and_eq_true] at c
            have c1 := of_decide_eq_true c.1
            have aD : Av (A4 ++ [D]) Rt D := .inl (List.mem_append_right _ List.mem_cons_self)
            have lD : ∀ xs', ¬ Rd H4 D (.tup xs') := fun xs' z => by rcases z with z | ⟨o, z⟩ <;> (rw [hS4] at z; cases z)
            have s7 := s6.wr (o := SetO X.w D (fun j => S j || decide (j = k)) (if S k = true then n else n + 1)) List.mem_cons_self lD
            have b2 := hidOk_of c.2
            have rw2 := RE.wipe own b2 s7.re
            rw [weq] at rw2
            refine ⟨D, k, S, n, rfl, rfl, hS4, (by rw [si.len]; show acc.length + 1 < 4096; omega), wipeE env3 own, A4, addI acc k, eL2, ⟨s7.go, s7.nd, s7.rt, s7.th, s7.bth, rw2⟩, ⟨_, _, upd_same, si.add k⟩, ?_, ?_, ?_, fun j hj => wipeE_none own j hj (b2 j hj).lt⟩
            · have := addI_len acc k
              omega
            · refine jt.mono _ _ _ _ p4 (fun b o q n => ?_) (fun b xs' q => ?_) (fun b z => .inl z)
              · rw [upd_ne (fun z => n (by rw [z]; exact aD))]; exact q
              · have ne : b ≠ D := fun z => by subst z; exact lD xs' q
                exact Rd.mono q fun u q => by rw [upd_ne ne]; exact q
            · refine ⟨fun b o q n => ?_, fun b xs' q => ?_, go4.new⟩
              · have q4 := go4.keep b o q n
                have ne : b ≠ D := fun z => by
                  subst z
                  rw [hD] at q; cases q
                rw [upd_ne ne]; exact q4
              · have q4 := go4.tups b xs' q
                have ne : b ≠ D := fun z => by subst z; exact lD xs' q4
                exact Rd.mono q4 fun u q => by rw [upd_ne ne]; exact q
          · rw [if_neg c] at eL2; cases eL2
        | _ => simp only [ek] at eL2; cases eL2
    · have ei : i = ts.length := by omega
      subst ei
      rw [List.drop_length] at eL
      cases (show R.ok acc envi = R.ok isF envF from eL)
      refine .inl ⟨jt.stop Hc _ _ pH (Nat.le_refl _), ?_⟩
      have rb := (RE.back own (fun j hj => .inl (nones j hj)) (olds Hc (Ai ++ [D]) go) sx.re).1
      rw [backS_wipe] at rb
      exact p2 (.ref D) Hc Ai [D] ⟨sx.go, sx.nd, sx.rt, sx.th, sx.bth, rb⟩ ⟨D, S, n, rfl, rfl, hS, si, by rw [si.len]; exact hacc⟩
theorem snz_sc {elt tg iter : Expr} {ifs : List Expr} {scope : Scope} {own' : List (Str × Nat)} {own : List Nat} {pos : Pos} {tgi : Tg} {it : Ev.It} {cs : Tts} {e : E} (eo : own'.map (·.2) = own) (hc : X.calm = true) (hN : X.N.Nodup)
    (hi : PI X tg iter (tI X.K g it)) (ok : BlkOk X.N X.env.scope scope own') (hlen : ∀ i ∈ tgs tgi, i < X.N.length)
    (hg : ∀ (s : Shared) (H : Hp) (C : Addr) (cl : List (Str × Addr)) (fp : List Addr), PG (X.blk s H scope (compEnvC scope cl C X.env) fp) tg (gT X.K tgi))
    (ht : ∀ (s : Shared) (H : Hp) (C : Addr) (cl : List (Str × Addr)) (fp : List Addr), PTs (X.blk s H scope (compEnvC scope cl C X.env) fp) ifs (tTs X.K g.mute cs))
    (he : ∀ (s : Shared) (H : Hp) (C : Addr) (cl : List (Str × Addr)) (fp : List Addr), PE (X.blk s H scope (compEnvC scope cl C X.env) fp) elt (tE X.K g.mute e)) (hs : ∀ x, foldedSetIterable iter X.env x = pure x) :
    PE X (.SetComp elt [⟨tg, iter, ifs, 0⟩] scope pos) (tZ X.K X.w g (.sc own tgi it cs e)) := by
  subst eo
  refine ⟨fun pins s σ H Q I h => (pe_sg (fun H h => setO_new (setR_fresh X.w)) (fun Y e1 e2 => ?_) hc hN hi ok hg ht he hs).run pins s σ H Q I (sc_ev hlen I.len h)⟩
  rw [← e2]
  exact mt_sadd
end
/-! ### list(range(a, b, c)) -/
theorem stepI_map (a c : Int) (n : Nat) : (List.range n).map (fun (i : Nat) => V.int (a + (i : Nat) * c)) = (stepI a c n).map V.int := by
  induction n generalizing a with
  | zero => rfl
  | succ n ih =>
    rw [List.range_succ_eq_map, List.map_cons, List.map_map]
    show _ = V.int a :: (stepI (a + c) c n).map V.int
    rw [← ih (a + c)]
    congr 1
    · simp
    · refine List.map_congr_left fun i _ => ?_
      show V.int (a + ((i + 1 : Nat) : Int) * c) = V.int (a + c + (i : Nat) * c)
      congr 1
      rw [Int.natCast_add, Int.add_mul]
      omega
section
variable {X : Cx} {g : Cfg} {pos p0 : Pos} {a b c : Expr} {ia ib ic : E}
theorem vals_st {a c : Int} {n : Nat} {acc : Array Value} (h : ItemsOf (fun i v => ∃ t, v = .int (a + i * c) t) acc n) : Vals ((stepI a c n).map V.int) acc.toList := by
  have e : acc.toList.length = n := by rw [Array.length_toList]; exact h.1
  rw [← stepI_map, ← e]
  refine vals_of_get acc.toList _ fun j u hj => ?_
  obtain ⟨t, rfl⟩ := h.2 j u (by rw [← hj, Array.getElem?_toList])
  exact ⟨t, rfl⟩
theorem stepI_len (a c : Int) : ∀ n, (stepI a c n).length = n := by
  intro n
  induction n generalizing a with
  | zero => rfl
  | succ n ih => show (stepI (a + c) c n).length + 1 = _; rw [ih]
theorem pe_listRg3 {pr pl : Pos} {ta : TA} (hc : X.calm = true) (hgl : Gl X "list") (hml : X.mg "list" = none) (hgr : Gl X "range") (hmr : X.mg "range" = none) (ha : PA X [a, b, c] ta)
    (hs : starEach [a, b, c] X.env = (false, eval a X.env) :: starEach [b, c] X.env) (hpl : (backTo p0 (starEach [b, c] X.env)).any (·.1) = false) :
    PE X (.Call (.Name "list" pl) [.Call (.Name "range" pr) [a, b, c] [] p0] [] pos) (fun σ H Q => ta σ H fun vs H1 => ∃ (i j k : Int) (n : Nat), vs = [.int i, .int j, .int k] ∧ RgC i j k n ∧ n ≤ 16777216 ∧ ∀ q, H1 q = none → Q (.ref q) (upd H1 q (.lst ((stepI i k n).map V.int)))) := by
  refine ⟨fun pins s σ H Q I h => ?_⟩
  refine PyProof.Rows.Call_ (ld_blt I hgl hml PyProof.Rows.boot_list (PyProof.Rows.callWith_type1 (PyProof.Rows.args_cons ?_ rfl) rfl))
  refine PyProof.Rows.Call_ (ld_blt I hgr hmr PyProof.Rows.boot_range (PyProof.Rows.callWith_type1 (thn (ha.run p0 pins s σ H _ I h) fun us s1 ⟨vs, H1, I1, r1, q1⟩ => ?_) hs hpl))
  obtain ⟨i, j, k, n, e, ⟨c0, c1, c2, c3⟩, hz, q⟩ := q1
  subst e
  cases r1 with
  | cons r rr =>
  cases rr with
  | cons r' rr =>
  cases rr with
  | cons r'' rr =>
  cases rr
  obtain ⟨t, rfl⟩ := r
  obtain ⟨t', rfl⟩ := r'
  obtain ⟨t'', rfl⟩ := r''
  refine call_range_3 c0 ?_ (.inl (PyProof.noPylong_small c1))
  refine PyProof.Rows.args_nil ?_
  have I2 : Inv X pins σ H1 { s1 with heap := s1.heap.push { cls := .type "range", data := .fields #[.int i t, .int j t', .int k t''] } } := I1.kept (t' := s1.toks) fun b o e => Heap.get?_push_of_some _ e
  refine call_list_range (n := n) (I2.ok.hd hc) (IsRange.new ..) c2 c3 (by omega) fun h' tk acc c' hk e' hi => ?_
  refine ⟨.ref _, upd H1 _ (.lst ((stepI i k n).map V.int)), I2.laid hk (Nat.le_refl _) (show ObjOk X.prog X.w _ _ _ (.lst ((stepI i k n).map V.int)) from ⟨?_, acc.toList, c', vals_st hi, ?_⟩), rfl, q _ (I2.hok.fresh (Nat.le_refl _))⟩
  · rw [List.length_map, stepI_len, sizeLine_eq]; exact hz
  · rw [Array.toArray_toList]; exact e'
theorem rsz {a b c : Int} (hc : 0 < c) : Builtin.Range.rangeSize a b c = (((b - a + c - 1) / c).toNat : Nat) := by
  unfold Builtin.Range.rangeSize
  rw [if_pos (show c > 0 from hc)]
  by_cases h : a < b
  · rw [if_pos h]
    have e : b - a + c - 1 = (b - a - 1) + 1 * c := by omega
    have p : 0 ≤ (b - a - 1) / c := Int.ediv_nonneg (by omega) (by omega)
    rw [e, Int.add_mul_ediv_right _ _ (by omega), Int.toNat_of_nonneg (by omega)]
  · rw [if_neg h]
    have p : (b - a + c - 1) / c ≤ 0 := by
      have : (b - a + c - 1) / c < 1 := Int.ediv_lt_of_lt_mul hc (by omega)
      omega
    rw [Int.toNat_of_nonpos p]
    rfl
theorem snd_lrng3 {pr pl : Pos} (hc : X.calm = true) (hgl : Gl X "list") (hml : X.mg "list" = none) (hgr : Gl X "range") (hmr : X.mg "range" = none) (ha : PE X a (tE X.K g ia)) (hb : PE X b (tE X.K g ib)) (hcc : PE X c (tE X.K g ic))
    (hs : starEach [a, b, c] X.env = (false, eval a X.env) :: starEach [b, c] X.env) (hs2 : starEach [b, c] X.env = (false, eval b X.env) :: starEach [c] X.env) (hs3 : starEach [c] X.env = (false, eval c X.env) :: starEach [] X.env) (hpl : (backTo p0 (starEach [b, c] X.env)).any (·.1) = false) :
    PE X (.Call (.Name "list" pl) [.Call (.Name "range" pr) [a, b, c] [] p0] [] pos) (tE X.K g (.lrng3 ia ib ic)) :=
  PE.imp (pe_listRg3 hc hgl hml hgr hmr (pa_cons ha (pa_cons hb (pa_cons hcc pa_nil hs3) hs2) hs) hs hpl) fun σ H Q ⟨Rt, env, A, rl, p⟩ => by
    refine ⟨Rt, env, A, rl, Post.seq p fun x e1 v H1 A1 B1 s1 o1 p1 => ?_⟩
    refine ⟨RtB B1 Rt, e1, A1, s1.rl, Post.seq2 s1 p1 fun y e2 v2 H2 A2 B2 s2 o2 p2 => ?_⟩
    have s12 := s1.next s2
    refine ⟨RtB (B1 ++ B2) Rt, e2, A2, s12.rl, Post.seq2 s12 p2 fun z e3 v3 H3 A3 B3 s3 o3 p3 => ?_⟩
    have s13 := s12.next s3
    obtain ⟨w, ew, p4⟩ := Post.of p3
    obtain ⟨is, ei, e4⟩ := Option.map_eq_some_iff.mp ew
    subst e4
    cases ex : x.fz with
    | int i =>
      cases ey : y.fz with
      | int j =>
        cases ez : z.fz with
        | int k =>
          rw [ex, ey, ez] at ei
          have ei' : (if (okR i && okR j && decide (0 < k) && decide (k ≤ 16777216)) = true then some (stepI i k ((j - i + k - 1) / k).toNat) else none) = some is := ei
          by_cases cc : (okR i && okR j && decide (0 < k) && decide (k ≤ 16777216)) = true
          · rw [if_pos cc] at ei'
            cases ei'
            simp only [Bool.and_eq_true, decide_eq_true_eq] at cc
            obtain ⟨⟨⟨c1, c2⟩, c3⟩, c4⟩ := cc
            have d1 := okR_of c1
            have d2 := okR_of c2
            have le : (j - i + k - 1) / k ≤ 16777216 := by
              have : (j - i + k - 1) / k < 16777217 := Int.ediv_lt_of_lt_mul c3 (by
                have : j - i ≤ 16777216 := by omega
                have h2 : 16777217 * k = 16777216 * k + k := by omega
                have h3 : 16777216 ≤ 16777216 * k := by omega
                omega)
              omega
            refine ⟨i, j, k, ((j - i + k - 1) / k).toNat, ?_, ⟨by omega, by omega, ?_, rsz c3⟩, by omega, fun q hq => ?_⟩
            · rw [fz_int ex o1, fz_int ey o2, fz_int ez o3]
            · unfold Builtin.Range.small
              rw [rsz c3]
              simp only [Builtin.Range.rangeFitsLong, Bool.and_eq_true, Bool.or_eq_true, decide_eq_true_eq, beq_iff_eq, show k > 0 from c3, if_true]
              generalize en0 : ((j - i + k - 1) / k).toNat = n0
              have hn0 : n0 ≤ 16777216 := by omega
              clear ei p4 ew en0 p3 p2 p1 p
              omega
            · obtain ⟨s4, o4⟩ := s13.made (Mk.ints (stepI i k ((j - i + k - 1) / k).toNat) hq)
              exact p4 _ _ A3 _ s4 o4
          · rw [if_neg cc] at ei'; cases ei'
        | _ => rw [ex, ey, ez] at ei; cases ei
      | _ => rw [ex, ey] at ei; cases ei
    | _ => rw [ex] at ei; cases ei
end
end Ev
/-! Ev15: the rules in short forms, their side conditions by computation. -/
namespace Ev
open PySem L2
/-! ### conditions by computation -/
def visB (sc : Scope) (x : Str) : Bool := match sc.names.lookup x with
  | some .local => true
  | some .cell => true
  | some .free => true
  | _ => false
theorem vis_of {sc : Scope} {x : Str} (h : visB sc x = true) : Vis sc x := by
  unfold visB at h
  unfold Vis
  split at h <;> first | (rename_i e; rw [e]; simp) | cases h
def locB (sc : Scope) (x : Str) : Bool := match sc.names.lookup x with
  | some .local => true
  | some .cell => true
  | _ => false
theorem loc_of {sc : Scope} {x : Str} (h : locB sc x = true) : L2.Loc sc x := by
  unfold locB at h
  unfold L2.Loc
  split at h <;> first | (rename_i e; rw [e]; simp) | cases h
def lclB (sc : Scope) (x : Str) : Bool := match sc.names.lookup x with
  | some .local => true
  | _ => false
theorem lcl_of {sc : Scope} {x : Str} (h : lclB sc x = true) : sc.names.lookup x = some .local := by
  unfold lclB at h
  split at h <;> first | (rename_i e; rw [e]) | cases h
def glB (env : PySem.Env) (x : Str) : Bool := match env.kindOf x with
  | some .globalImplicit => true
  | _ => false
theorem gl_of {X : Cx} {x : Str} (h : glB X.env x = true) : Gl X x := by
  unfold glB at h
  unfold Gl
  split at h <;> first | (rename_i e; rw [e]) | cases h
def isLoc : NameKind → Bool
  | .local => true
  | .cell => true
  | _ => false
def isFree : NameKind → Bool
  | .free => true
  | _ => false
def celB (sc : Scope) (x : Str) : Bool := match sc.names.lookup x with
  | some .cell => true
  | some .free => true
  | _ => false
def sameK : NameKind → Option NameKind → Bool
  | .local, some .local => true
  | .cell, some .cell => true
  | .free, some .free => true
  | .globalImplicit, some .globalImplicit => true
  | .globalExplicit, some .globalExplicit => true
  | _, _ => false
def funB : ScopeKind → Bool
  | .function => true
  | _ => false
def blkB (N : List Str) (sc scope : Scope) (own : List (Str × Nat)) : Bool :=
  funB scope.kind && scope.names.all (fun y => sameK y.2 (scope.names.lookup y.1)) && own.all (fun p => N[p.2]? == some p.1) && scope.names.all (fun y => !isFree y.2 || celB sc y.1) &&
    scope.names.all fun y => !isLoc y.2 || (own.map (·.1)).contains y.1 || !N.contains y.1
theorem sameK_of {k : NameKind} {o : Option NameKind} (h : sameK k o = true) : o = some k := by
  cases o with
  | none => cases k <;> cases h
  | some j => cases k <;> cases j <;> first | rfl | cases h
theorem blk_of {N : List Str} {sc scope : Scope} {own : List (Str × Nat)} (h : blkB N sc scope own = true) : BlkOk N sc scope own := by
  unfold blkB at h
  simp only [Bool.and_eq_true] at h
  obtain ⟨⟨⟨⟨h1, h2⟩, h3⟩, h4⟩, h5⟩ := h
  refine ⟨?_, fun y hy => sameK_of (List.all_eq_true.mp h2 y hy), fun p hp => ?_, fun y hy e => ?_, fun y hy e => ?_⟩
  · unfold funB at h1
    split at h1 <;> first | assumption | cases h1
  · have := List.all_eq_true.mp h3 p hp
    exact eq_of_beq this
  · have := List.all_eq_true.mp h4 y hy
    rw [e] at this
    have this : celB sc y.1 = true := by simpa [isFree] using this
    unfold celB at this
    split at this <;> first | (rename_i e; rw [e]; simp) | cases this
  · have := List.all_eq_true.mp h5 y hy
    have hl : isLoc y.2 = true := by rcases e with e | e <;> rw [e] <;> rfl
    rw [hl] at this
    simp only [Bool.not_true, Bool.false_or, Bool.or_eq_true] at this
    rcases this with z | z
    · exact .inl (List.contains_iff_mem.mp z)
    · refine .inr fun w => ?_
      rw [List.contains_iff_mem.mpr w] at z
      cases z
def allLt (is : List Nat) (n : Nat) : Bool := is.all fun i => Nat.blt i n
theorem allLt_of {is : List Nat} {n : Nat} (h : allLt is n = true) : ∀ i ∈ is, i < n := fun i hi => Nat.blt_eq.mp (List.all_eq_true.mp h i hi)
def noneIn (ks is : List Nat) : Bool := ks.all fun j => !is.contains j
theorem noneIn_of {ks is : List Nat} (h : noneIn ks is = true) : ∀ j ∈ ks, is.contains j = false := fun j hj => by
  have := List.all_eq_true.mp h j hj
  simpa using this
def okName (x : Str) : Bool := !(x == ("__debug__" : Str)) && !(x == ("__classdict__" : Str)) && !(x == ("__name__" : Str))
theorem okName_of {x : Str} (h : okName x = true) : (x == ("__debug__" : Str)) = false ∧ (x == ("__classdict__" : Str)) = false ∧ x ≠ "__name__" := by
  unfold okName at h
  simp only [Bool.and_eq_true, Bool.not_eq_true'] at h
  exact ⟨h.1.1, h.1.2, fun e => by
    have h2 := h.2
    rw [e] at h2
    rw [beq_self_eq_true] at h2
    cases h2⟩
end Ev
/-! Ev16: the defs of a text together; the end. -/
namespace Ev
open PySem L2
/-- no exception is spoken of -/
def xr0 : XR := fun _ _ _ _ _ _ => False
theorem xm0 : ∀ c t H (av av' : Addr → Prop) cls d, (∀ b, av' b → av b) → xr0 c t H av cls d → xr0 c t H av' cls d := fun _ _ _ _ _ _ _ _ h => h
section
variable {P : Program} {w : World} {K : PySem.W.Frag} {mg : Str → Option Value} {base : Heap} {f : Addr} {fd : FuncData} {xr : XR}
/-- the end: the law's value is True -/
theorem end_of {C : Calls} {i : Nat} {H : Hp} {a : Addr} {ns : List Int} {o : List (Option W)} (hS : SqL K H a (ns.map V.int)) (e : C i [.val (.scr ns)] = .ok (.val (.bl true)) o) : spC K xr C i [] 1 [.ref a] H (fun v _ => v = .bl true) fun _ _ _ => False := by
  refine ⟨rfl, fun _ => False, [.val (.scr ns)], [], ⟨List.nodup_nil, fun b hb => (by cases hb), fun b z => z.elim, .ref a, [], [], [], rfl, rfl, ⟨rfl, a, rfl, ?_⟩, rfl, rfl⟩, ?_⟩
  · rcases hS with h | h
    · exact .inl ⟨h, fun z => z.elim (fun z => by cases z) id⟩
    · exact .inr (.inr h)
  · rw [e]
    exact fun v H' A' B sx ow => ow.2
/-- the same promise, more exceptions allowed -/
theorem fnOk_cx {CX CX' : CXT} {k : Nat} {ps : List Str} {sp : Sp} (F : FnOk P w K mg base CX k f fd ps sp) (h : ∀ o H s E e s', CX o H s E e s' → CX' o H s E e s') : FnOk P w K mg base CX' k f fd ps sp :=
  ⟨F.len, fun A outer s H args us vs Q E hr he hb hv hs => codeAny_mono (F.run A outer s H args us vs Q E hr he hb hv hs) fun r s' q => by
    cases r with
    | error e => exact h _ _ _ _ _ _ q
    | ok fl =>
      cases fl with
      | ret u => exact q
      | next => exact q
      | brk => exact q
      | cont => exact q⟩
/-- the exceptions of any world -/
def CXw (P : Program) : CXT := fun o H s E e s' => ∃ w, L2.CX P w o H s E e s'
theorem cxw_end (P : Program) (H : Hp) (s : Shared) (e : Value) (s' : Shared) (h : CXw P [] H s (fun _ _ _ => False) e s') : False := by
  obtain ⟨w, _, _, _, _, _, _, _, _, _, _, _, _, z⟩ := h
  exact z
theorem cx_end (P : Program) (w : World) (H : Hp) (s : Shared) (e : Value) (s' : Shared) (h : L2.CX P w [] H s (fun _ _ _ => False) e s') : False := by
  obtain ⟨_, _, _, _, _, _, _, _, _, _, _, _, z⟩ := h
  exact z
end
end Ev
/-! Ev17: fields, displays of dicts, owned things read where they stand, while. -/
namespace Ev
open PySem L2
section
variable {X : Cx} {g : Cfg} {ks : List Nat} {pos pos' p0 p1 p2 p3 : Pos} {a b c : Expr} {ia ib ic : E} {i : Nat} {x f nm : Str} {is : Es}
/-- one of two ways -/
theorem snd_alt (h1 : PE X a (tE X.K g ia)) (h2 : PE X a (tE X.K g ib)) : PE X a (tE X.K g (.alt ia ib)) := ⟨fun pins s σ H Q I ⟨Rt, env, A, rl, p⟩ => by
  have p' : Post X.K g (PO1 X.K) Rt σ H A (match evE g.G g.C ia env with | .no => evE g.G g.C ib env | r => r) Q := p
  cases e : evE g.G g.C ia env with
  | no => rw [e] at p'; exact h2.run pins s σ H Q I ⟨Rt, env, A, rl, p'⟩
  | ok w e1 => rw [e] at p'; exact h1.run pins s σ H Q I ⟨Rt, env, A, rl, by rw [e]; exact p'⟩
  | exc k t e1 => rw [e] at p'; exact h1.run pins s σ H Q I ⟨Rt, env, A, rl, by rw [e]; exact p'⟩⟩
theorem lookup_get {K : PySem.W.Frag} {H : Hp} {av : Addr → Prop} {f : Str} : ∀ {kvs : List (Str × V)} {fs : List Str} {ts : List T} {xs : List V} {t : T}, kvs.map (·.1) = fs → kvs.map (·.2) = xs → FzL K H av ts xs → getN fs ts f = some t → ∃ v, kvs.lookup f = some v ∧ Fz K H av t v
  | [], fs, ts, xs, t, e1, e2, h, e => by
    subst e1
    cases ts <;> cases e
  | p :: r, fs, [], xs, t, e1, e2, h, e => by
    subst e1
    cases e
  | (k, y) :: r, fs, u :: ts, xs, t, e1, e2, h, e => by
    subst e1 e2
    obtain ⟨v, r', e3, h1, h2⟩ := h
    obtain ⟨e4, e5⟩ := List.cons.inj (show y :: r.map (·.2) = v :: r' from e3)
    have e' : (if k = f then some u else getN (r.map (·.1)) ts f) = some t := e
    by_cases c : k = f
    · rw [if_pos c] at e'
      cases e'
      refine ⟨v, ?_, h1⟩
      rw [List.lookup_cons, c, beq_self_eq_true, e4]
    · rw [if_neg c] at e'
      obtain ⟨z, g1, g2⟩ := lookup_get (kvs := r) rfl e5 h2 e'
      refine ⟨z, ?_, g2⟩
      rw [List.lookup_cons, show (f == k) = false from beq_eq_false_iff_ne.mpr fun z => c z.symm]
      exact g1
theorem lookup_own {K : PySem.W.Frag} {H : Hp} {av : Addr → Prop} {f : Str} : ∀ {kvs : List (Str × V)} {fs : List Str} {ws : List W} {xs : List V} {D : List Addr} {t : T}, kvs.map (·.1) = fs → kvs.map (·.2) = xs → OwnL K H av ws xs D → getN fs ws f = some (.val t) → ∃ v, kvs.lookup f = some v ∧ Fz K H av t v
  | [], fs, ts, xs, D, t, e1, e2, h, e => by
    subst e1
    cases ts <;> cases e
  | p :: r, fs, [], xs, D, t, e1, e2, h, e => by
    subst e1
    cases e
  | (k, y) :: r, fs, u :: ts, xs, D, t, e1, e2, h, e => by
    subst e1 e2
    obtain ⟨v, r', B1, B2, e3, rfl, h1, h2⟩ := h
    obtain ⟨e4, e5⟩ := List.cons.inj (show y :: r.map (·.2) = v :: r' from e3)
    have e' : (if k = f then some u else getN (r.map (·.1)) ts f) = some (.val t) := e
    by_cases c : k = f
    · rw [if_pos c] at e'
      cases e'
      refine ⟨v, ?_, h1.2⟩
      rw [List.lookup_cons, c, beq_self_eq_true, e4]
    · rw [if_neg c] at e'
      obtain ⟨z, g1, g2⟩ := lookup_own (kvs := r) rfl e5 h2 e'
      refine ⟨z, ?_, g2⟩
      rw [List.lookup_cons, show (f == k) = false from beq_eq_false_iff_ne.mpr fun z => c z.symm]
      exact g1
/-- a field of a frozen instance -/
theorem fld_fz {K : PySem.W.Frag} {H : Hp} {av : Addr → Prop} {t u : T} {v : V} (h : Fz K H av t v) (e : fldT nm f t = some u) : ∃ a dx fs z, v = .ref a ∧ H a = some (.ins (He.ga K nm) dx fs) ∧ fs.lookup f = some z ∧ Fz K H av u z := by
  unfold fldT at e
  split at e
  · rename_i c' fs ts
    by_cases c : c' = nm
    · rw [if_pos c] at e
      subst c
      obtain ⟨a, xs, o, rfl, at_, _, ⟨dx, kvs, rfl, f1, f2⟩, hl⟩ := h
      obtain ⟨z, g1, g2⟩ := lookup_get f1 f2 hl e
      exact ⟨a, dx, kvs, z, rfl, at_, g1, g2⟩
    · rw [if_neg c] at e; cases e
  · cases e
theorem snd_fld (cl : Cls X.K (He.ga X.K nm)) (na : NoAttr X.K (He.ga X.K nm) f) (ha : PE X a (tE X.K g ia)) (hb : attributeBase a f X.env (eval a X.env) = eval a X.env) : PE X (.Attribute a f pos) (tE X.K g (.fld nm f ia)) :=
  PE.imp (pe_fld ha hb) fun σ H Q ⟨Rt, env, A, rl, p⟩ => by
    refine ⟨Rt, env, A, rl, Post.seq p fun w e1 v H1 A1 B1 s1 o1 p1 => ?_⟩
    obtain ⟨w', ew, p2⟩ := Post.of p1
    obtain ⟨t, et, e2⟩ := Option.map_eq_some_iff.mp ew
    subst e2
    obtain ⟨q, dx, fs, z, rfl, hq, hz, fz⟩ := fld_fz (s1.fz0 o1) et
    exact ⟨q, _, dx, fs, z, rfl, hq, cl, na, hz, p2 z H1 A1 [] s1.drop0 ⟨rfl, fz⟩⟩
theorem snd_fldv (cl : Cls X.K (He.ga X.K nm)) (na : NoAttr X.K (He.ga X.K nm) f) (hN : X.N[i]? = some x) (hv : Vis X.env.scope x) (hd : (x == ("__debug__" : Str)) = false) (hcd : (x == ("__classdict__" : Str)) = false)
    (hb : attributeBase (.Name x p0) f X.env (eval (.Name x p0) X.env) = eval (.Name x p0) X.env) : PE X (.Attribute (.Name x p0) f pos) (tE X.K g (.fldv nm f i)) :=
  PE.imp (pe_fld (pe_var hN hv hd hcd) hb) fun σ H Q ⟨Rt, env, A, rl, p⟩ => by
    have p' : Post X.K g (PO1 X.K) Rt σ H A (match env[i]? with
      | some (some (.val t)) => R.of ((fldT nm f t).map .val) env
      | some (some (.nd (.ins c' fs) ws)) => if c' = nm then (match getN fs ws f with
        | some (.val t) => .ok (.val t) env
        | _ => .no) else .no
      | _ => .no) Q := p
    cases e : env[i]? with
    | none => rw [e] at p'; exact p'.elim
    | some o =>
    cases o with
    | none => rw [e] at p'; exact p'.elim
    | some w =>
    obtain ⟨_, B, _, eA, _, hw, _⟩ := RE.slot env σ A i rl.re (List.getElem?_eq_some_iff.mp e).1
    obtain ⟨v, ev, ow⟩ := hw w e
    have s0 := rl.sx
    have av0 : ∀ b, Av (A ++ []) Rt b → Av A Rt b := fun b z => by rw [List.append_nil] at z; exact z
    cases w with
    | val t =>
      rw [e] at p'
      obtain ⟨w', ew, p2⟩ := Post.of p'
      obtain ⟨u, et, e2⟩ := Option.map_eq_some_iff.mp ew
      subst e2
      obtain ⟨q, dx, fs, z, rfl, hq, hz, fz⟩ := fld_fz ow.2 et
      exact ⟨.ref q, ev, q, _, dx, fs, z, rfl, hq, cl, na, hz, p2 z H A [] s0 ⟨rfl, by rw [List.append_nil]; exact fz⟩⟩
    | lst _ => rw [e] at p'; exact p'.elim
    | set _ => rw [e] at p'; exact p'.elim
    | nd n ws =>
      cases n with
      | dct _ => rw [e] at p'; exact p'.elim
      | dcl _ => rw [e] at p'; exact p'.elim
      | ins c' fs =>
        rw [e] at p'
        have p2 : Post X.K g (PO1 X.K) Rt σ H A (if c' = nm then (match getN fs ws f with | some (.val t) => .ok (.val t) env | _ => .no) else .no) Q := p'
        by_cases c : c' = nm
        · rw [if_pos c] at p2
          subst c
          obtain ⟨q, xs, o, D, rfl, rfl, hq, ⟨⟨dx, kvs, rfl, f1, f2⟩, _⟩, hl⟩ := ow
          cases eg : getN fs ws f with
          | none => rw [eg] at p2; exact p2.elim
          | some u =>
            cases u with
            | val t =>
              rw [eg] at p2
              obtain ⟨z, g1, g2⟩ := lookup_own f1 f2 hl eg
              exact ⟨.ref q, ev, q, _, dx, kvs, z, rfl, hq, cl, na, g1, p2 z H A [] s0 ⟨rfl, by rw [List.append_nil]; exact g2⟩⟩
            | lst _ => rw [eg] at p2; exact p2.elim
            | set _ => rw [eg] at p2; exact p2.elim
            | nd _ _ => rw [eg] at p2; exact p2.elim
        · rw [if_neg c] at p2; exact p2.elim
/-- self.f = e -/
theorem sns_setf (cl : Cls X.K (He.ga X.K nm)) (na : NoAttr X.K (He.ga X.K nm) f) (hN : X.N[i]? = some x) (hv : Vis X.env.scope x) (hd : (x == ("__debug__" : Str)) = false) (hcd : (x == ("__classdict__" : Str)) = false) (he : PE X a (tE X.K g ia))
    (hs : swapsWith a (some (.Attribute (.Name x p0) f pos')) pos.line X.env = pure false) : PS X (.Assign [.Attribute (.Name x p0) f pos'] a pos) (tS X.K g ks (.setf nm f i ia)) :=
  PS.imp (ps_fld (pe_var hN hv hd hcd) he hs) fun D σ H hl ⟨Rt, env, A, rl, p⟩ => by
    refine ⟨Rt, env, A, rl, PostS.seq p fun w e1 v H1 A1 B1 s1 o1 p0 => ?_⟩
    have no : ∀ {r : R F}, r = .no → PostS X.K g ks Rt σ H A r D → False := fun e h => by rw [e] at h; exact h
    cases e : e1[i]? with
    | none => exact (no (by simp only [e]) p0).elim
    | some o =>
    cases o with
    | none => exact (no (by simp only [e]) p0).elim
    | some w0 =>
    cases w0 with
    | val t => exact (no (by simp only [e]) p0).elim
    | set t => exact (no (by simp only [e]) p0).elim
    | lst t => exact (no (by simp only [e]) p0).elim
    | nd n ws =>
      cases n with
      | dct _ => exact (no (by simp only [e]) p0).elim
      | dcl _ => exact (no (by simp only [e]) p0).elim
      | ins c' fs =>
        rw [e] at p0
        have p2 : PostS X.K g ks Rt σ H A (if (decide (c' = nm) && decide (fs.length < 1000)) = true then .ok .nx (e1.set i (some (.nd (.ins nm (putN fs f)) (putV fs ws f w)))) else .no) D := p0
        by_cases c : (decide (c' = nm) && decide (fs.length < 1000)) = true
        · rw [if_pos c] at p2
          simp only [Bool.and_eq_true, decide_eq_true_eq] at c
          obtain ⟨rfl, c2⟩ := c
          obtain ⟨a', o', D', ea, hx, ⟨xs, ⟨⟨dx, kvs, eo, f1, f2⟩, _⟩, hl'⟩, mk⟩ := s1.mutG e rfl
          subst eo
          have pm := putF_map f v kvs
          have lk : fs.length = kvs.length := by rw [← f1, List.length_map]
          have jl : fs.length = ws.length := by rw [OwnL.len ws xs D' hl', ← f2, List.length_map]; exact lk
          obtain ⟨D2, q1, q2⟩ := OwnL.putV f o1 fs ws xs D' jl hl'
          obtain ⟨A', s4, _⟩ := mk (.nd (.ins c' (putN fs f)) (putV fs ws f w)) (.ins (He.ga X.K c') dx (putF f v kvs)) D2 [] ⟨Ev.putV fs xs f v, ⟨⟨dx, _, rfl, by rw [pm.1, f1], by rw [pm.2, f1, f2]⟩, rfl⟩, q1⟩ fun b => by rw [List.append_nil]; exact q2 b
          exact ⟨.ref a', ea, a', _, dx, kvs, rfl, hx, cl, na, by rw [← lk]; exact c2, p2 σ _ A' Kp.refl s4⟩
        · rw [if_neg c] at p2; exact p2.elim
/-! ### owned things where they stand -/
/-- a slot's value as it reads now -/
theorem RE.now {K : PySem.W.Frag} {Rt : Addr → Prop} {H : Hp} {σ : St} {env : Env} {A : List Addr} {w : W} (re : RE K H (Av A Rt) env σ A) (e : env[i]? = some (some w)) : ∃ v, σ[i]? = some (some v) ∧ Fz K H (fun _ => False) w.fz v := by
  obtain ⟨_, B, _, eA, _, hw, _⟩ := RE.slot env σ A i re (List.getElem?_eq_some_iff.mp e).1
  obtain ⟨v, ev, ow⟩ := hw w e
  exact ⟨v, ev, Own.fz (fun _ z => z.elim) w v B (fun _ _ z => z) ow⟩
theorem snd_lenv (hg : Gl X "len") (hm : X.mg "len" = none) (hN : X.N[i]? = some x) (hv : Vis X.env.scope x) (hd : (x == ("__debug__" : Str)) = false) (hcd : (x == ("__classdict__" : Str)) = false)
    (hs : starEach [.Name x p1] X.env = (false, eval (.Name x p1) X.env) :: starEach [] X.env) : PE X (.Call (.Name "len" p0) [.Name x p1] [] pos) (tE X.K g (.lenv i)) :=
  PE.imp (pe_callB (t := tCons (fun σ H Q => ∃ v, σ[i]? = some (some v) ∧ Q v H) tNil) bi_len hg hm PySem.boot_len (pa_cons (pe_var hN hv hd hcd) pa_nil hs) (by decide) (by decide) hs rfl) fun σ H Q ⟨Rt, env, A, rl, p⟩ => by
    have p' : Post X.K g (PO1 X.K) Rt σ H A (match env[i]? with | some (some w) => R.of (lenT [w.fz]) env | _ => .no) Q := p
    cases e : env[i]? with
    | none => rw [e] at p'; exact p'.elim
    | some o =>
    cases o with
    | none => rw [e] at p'; exact p'.elim
    | some w =>
      rw [e] at p'
      obtain ⟨v, ev, fz⟩ := RE.now rl.re e
      obtain ⟨w', ew, p2⟩ := Post.of p'
      refine ⟨v, ev, fun _ => False, [w.fz], w', ⟨v, [], rfl, fz, rfl⟩, ew, fun z H' B mk => ?_⟩
      -- what len gives is an int
      have en : ∃ k, w' = .val (.int k) := by
        unfold lenT at ew
        split at ew
        · cases ew; exact ⟨_, rfl⟩
        · cases ew; exact ⟨_, rfl⟩
        · cases ew; exact ⟨_, rfl⟩
        · split at ew
          · cases ew; exact ⟨_, rfl⟩
          · cases ew
        · cases ew
      obtain ⟨k, rfl⟩ := en
      obtain ⟨eB, ez⟩ := mk.own
      subst eB
      have ez' : z = .int k := ez
      subst ez'
      obtain ⟨s4, o4⟩ := rl.sx.made (w := .val (.int k)) (v := .int k) (H2 := H') (B := []) ⟨mk.ext, List.nodup_nil, fun b hb => (by cases hb), ⟨rfl, rfl⟩⟩
      exact p2 (.int k) H' A [] s4 o4
theorem snd_cmpv {o : CmpOp} (hu : X.A.units + 64 < cLine) (hN : X.N[i]? = some x) (hv : Vis X.env.scope x) (hd : (x == ("__debug__" : Str)) = false) (hcd : (x == ("__classdict__" : Str)) = false) (hb : PE X b (tE X.K g ib)) (hm : behindInMarks o b = false) :
    PE X (.Compare (.Name x p0) [o] [b] pos) (tE X.K g (.cmpv o i ib)) :=
  PE.imp (pe_cmpR (cmp_all hu o) (pe_var hN hv hd hcd) hb hm) fun σ H Q ⟨Rt, env, A, rl, p⟩ => by
    have p' : Post X.K g (PO1 X.K) Rt σ H A (match env[i]? with
      | some (some _) => (evE g.G g.C ib env).bind fun y env1 => (match env1[i]? with
        | some (some w) => R.of ((cmpT o w.fz y.fz).map fun k => .val (.bl k)) env1
        | _ => .no)
      | _ => .no) Q := p
    cases e : env[i]? with
    | none => rw [e] at p'; exact p'.elim
    | some q =>
    cases q with
    | none => rw [e] at p'; exact p'.elim
    | some w0 =>
      rw [e] at p'
      obtain ⟨v, ev, _⟩ := RE.now rl.re e
      refine ⟨v, ev, Rt, env, A, rl, Post.seq p' fun y e1 u H1 A1 B1 s1 o1 p1 => ?_⟩
      have s0 := s1.drop0
      cases e2 : e1[i]? with
      | none => rw [e2] at p1; exact p1.elim
      | some q =>
      cases q with
      | none => rw [e2] at p1; exact p1.elim
      | some w =>
        rw [e2] at p1
        obtain ⟨v', ev', fz⟩ := RE.now (Rt := Rt) (A := A1) s0.rl0.re e2
        rw [ev] at ev'
        cases ev'
        obtain ⟨w', ew, p2⟩ := Post.of p1
        have fy : Fz X.K H1 (fun _ => False) y.fz u := Own.fz (fun _ z => z.elim) y u B1 (fun _ _ z => z) o1
        refine ⟨fun _ => False, w.fz, y.fz, w', fz, fy, ew, fun z H' B mk => ?_⟩
        obtain ⟨k, ek, e3⟩ := Option.map_eq_some_iff.mp ew
        subst e3
        obtain ⟨eB, ez⟩ := mk.own
        subst eB
        have ez' : z = .bl k := ez
        subst ez'
        obtain ⟨s4, o4⟩ := s0.made (w := .val (.bl k)) (v := .bl k) (H2 := H') (B := []) ⟨mk.ext, List.nodup_nil, fun b hb => (by cases hb), ⟨rfl, rfl⟩⟩
        exact p2 (.bl k) H' A1 [] s4 o4
/-! ### while -/
theorem sns_whl {n : Nat} {body : List Stmt} {ja : Tt} {sb : Ss} (hp : PassesOwn (model X.prog X.w) X.A X.env X.xe) (hc : PT X c (tT X.K g ja)) (hb : PSs X body (tSs X.K g ks sb)) : PS X (.While c body [] pos) (tS X.K g ks (.whl n ja sb)) :=
  PS.imp (ps_while hp hc hb) fun D σ H hl ⟨Rt, env, A, rl, p⟩ => by
    have p' : PostS X.K g ks Rt σ H A (whlL (evT g.G g.C ja) (evSs g.G g.C sb) n env) D := p
    refine ⟨fun m σ' H' => ∃ env' A', Kp ks σ σ' ∧ Sx X.K Rt σ' H A H' env' A' [] ∧ PostS X.K g ks Rt σ H A (whlL (evT g.G g.C ja) (evSs g.G g.C sb) m env') D, ⟨n, env, A, Kp.refl, rl.sx, p'⟩, ?_⟩
    rintro m σ' H' ⟨env', A', kp, sx, po⟩
    cases m with
    | zero => exact (show False from po).elim
    | succ m =>
      have po1 : PostS X.K g ks Rt σ H A ((evT g.G g.C ja env').bind fun b env1 => match b with
        | false => .ok .nx env1
        | true => (evSs g.G g.C sb env1).bind fun f env2 => match f with
          | .nx => whlL (evT g.G g.C ja) (evSs g.G g.C sb) m env2
          | .ct => whlL (evT g.G g.C ja) (evSs g.G g.C sb) m env2
          | .bk => .ok .nx env2
          | .rt w => .ok (.rt w) env2) D := po
      refine ⟨Rt, env', A', sx.rl0, ?_⟩
      cases et : evT g.G g.C ja env' with
      | no => rw [et] at po1; exact (show False from po1).elim
      | exc k t e1 =>
        rw [et] at po1
        exact fun cls d H3 A3 s3 px => po1 cls d σ' H3 A3 kp (sx.next0 s3) px
      | ok b e1 =>
        rw [et] at po1
        intro v H1 A1 B1 s1 o1
        obtain ⟨rfl, rfl⟩ := o1
        have sx1 : Sx X.K Rt σ' H A H1 e1 A1 [] := sx.next0 s1
        cases v with
        | false =>
          rw [if_neg (by decide)]
          exact po1 σ' H1 A1 kp sx1
        | true =>
          rw [if_pos rfl]
          have po2 : PostS X.K g ks Rt σ H A ((evSs g.G g.C sb e1).bind fun f env2 => match f with
            | .nx => whlL (evT g.G g.C ja) (evSs g.G g.C sb) m env2
            | .ct => whlL (evT g.G g.C ja) (evSs g.G g.C sb) m env2
            | .bk => .ok .nx env2
            | .rt w => .ok (.rt w) env2) D := po1
          refine ⟨fun σ3 H3 => ∃ env3 A3, Kp ks σ σ3 ∧ Sx X.K Rt σ3 H A H3 env3 A3 [] ∧ PostS X.K g ks Rt σ H A (whlL (evT g.G g.C ja) (evSs g.G g.C sb) m env3) D, fun σ3 H3 w => ⟨m, Nat.lt_succ_self m, w⟩, Rt, e1, A1, sx1.rl0, ?_⟩
          cases eb : evSs g.G g.C sb e1 with
          | no => rw [eb] at po2; exact (show False from po2).elim
          | exc k t env2 =>
            rw [eb] at po2
            exact fun cls d σ3 H3 A3 k3 s3 px => po2 cls d σ3 H3 A3 (kp.trans k3) (sx1.next0 s3) px
          | ok f env2 =>
            rw [eb] at po2
            cases f with
            | nx => exact fun σ3 H3 A3 k3 s3 => ⟨env2, A3, kp.trans k3, sx1.next0 s3, po2⟩
            | ct => exact fun σ3 H3 A3 k3 s3 => ⟨env2, A3, kp.trans k3, sx1.next0 s3, po2⟩
            | bk => exact fun σ3 H3 A3 k3 s3 => po2 σ3 H3 A3 (kp.trans k3) (sx1.next0 s3)
            | rt w => exact fun v σ3 H3 A3 B3 k3 s3 ow => po2 v σ3 H3 A3 B3 (kp.trans k3) (sx1.next0 s3) ow
end
end Ev
/-! Ev18: displays of dicts, list(d.items()), pop, append within, own classes asked for. -/
namespace Ev
open PySem L2
/-! ### displays of dicts -/
def tKy (k : Key) : TE := fun _ H Q => Q (kV k) H
def trsOf (K : PySem.W.Frag) (g : Cfg) : List Key → Es → List (TE × TE)
  | k :: ks, .cons e es => (tKy k, tE K g e) :: trsOf K g ks es
  | _, _ => []
def lenEs : Es → Nat
  | .nil => 0
  | .cons _ es => lenEs es + 1
theorem pairs_ev {K : PySem.W.Frag} {g : Cfg} : ∀ (ks : List Key) (is : Es) (σ : St) (H : Hp) (Rt : Addr → Prop) (env : Env) (A : List Addr) (Q : List V → Hp → Prop) (Q0 : List (V × V) → Hp → Prop), ks.length = lenEs is → Rl K Rt H σ env A → Post K g (POL K) Rt σ H A (evEs g.G g.C is env) Q →
    (∀ vs H2, vs.length = ks.length → Q vs H2 → Q0 ((ks.zip vs).map fun kv => (kV kv.1, kv.2)) H2) → tPairs (trsOf K g ks is) σ H Q0
  | [], .nil, σ, H, Rt, env, A, Q, Q0, _, rl, p, k => k [] H rfl (p [] H A [] rl.sx ⟨rfl, rfl⟩)
  | [], .cons _ _, σ, H, Rt, env, A, Q, Q0, hl, _, _, _ => by cases hl
  | _ :: _, .nil, σ, H, Rt, env, A, Q, Q0, hl, _, _, _ => by cases hl
  | k :: ks, .cons e es, σ, H, Rt, env, A, Q, Q0, hl, rl, p, kk => by
    refine ⟨Rt, env, A, rl, Post.seq p fun w e1 v1 H1 A1 B1 s1 o1 p1 => ?_⟩
    exact pairs_ev ks es σ H1 (RtB B1 Rt) e1 A1 (fun vs H2 => Q (v1 :: vs) H2) _ (Nat.succ.inj hl) s1.rl (Post.seq2 s1 p1 fun ws e2 vs H2 A2 B2 s2 o2 p2 =>
      p2 (v1 :: vs) H2 A2 (B1 ++ B2) (s1.next s2) ⟨v1, vs, B1, B2, rfl, rfl, s1.own s2 o1, Sx.ownL2 o2⟩) fun vs H2 e3 q => kk (v1 :: vs) H2 (by rw [List.length_cons, List.length_cons, e3]) q
theorem merge_nodup : ∀ (more kvs : List (Key × V)), ((kvs ++ more).map (·.1)).Nodup → mergeK kvs more = kvs ++ more
  | [], kvs, _ => (List.append_nil _).symm
  | p :: more, kvs, nd => by
    have np : p.1 ∉ kvs.map (·.1) := fun z => by
      rw [List.map_append] at nd
      exact (List.nodup_append.mp nd).2.2 p.1 z p.1 List.mem_cons_self rfl
    have e : putK kvs p.1 p.2 = kvs ++ [p] := by
      unfold putK
      rw [if_neg]
      intro z
      obtain ⟨q, hq, e⟩ := List.any_eq_true.mp z
      exact np (List.mem_map.mpr ⟨q, hq, of_decide_eq_true e⟩)
    show mergeK (putK kvs p.1 p.2) more = _
    rw [e, merge_nodup more (kvs ++ [p]) (by rw [List.append_assoc]; exact nd), List.append_assoc]
    rfl
section
variable {X : Cx} {g : Cfg} {ks : List Nat} {pos pos' p0 p1 p2 p3 apos cpos : Pos} {a b c : Expr} {ia ib ic : E} {i : Nat} {x f nm : Str} {is : Es}
theorem pd_nil : PPs X pos [] [] (trsOf X.K g [] .nil) := pps_nil
theorem pd_str {k : Str} {j : Nat} {v : Expr} {keys : List (Option Expr)} {vals : List Expr} {js : List Key} (hv : PE X v (tE X.K g ia)) (hr : PPs X pos keys vals (trsOf X.K g js is)) : PPs X pos (some (.Constant (.str k) j p0) :: keys) (v :: vals) (trsOf X.K g (.inr k :: js) (.cons ia is)) :=
  pps_cons pe_str hv hr
theorem pd_int {k : Int} {j : Nat} {v : Expr} {keys : List (Option Expr)} {vals : List Expr} {js : List Key} (hv : PE X v (tE X.K g ia)) (hr : PPs X pos keys vals (trsOf X.K g js is)) : PPs X pos (some (.Constant (.int k) j p0) :: keys) (v :: vals) (trsOf X.K g (.inl k :: js) (.cons ia is)) :=
  pps_cons pe_int hv hr
/-- a dict's display -/
theorem snd_dct {keys : List (Option Expr)} {vals : List Expr} {js : List Key} (h : PPs X pos keys vals (trsOf X.K g js is)) (hall : keys.all (·.isSome) = true) (hl : keys.length = vals.length) (h0 : keys ≠ []) (h15 : keys.length ≤ 15)
    (hj : js.length = lenEs is) (nd : js.Nodup) : PE X (.Dict keys vals pos) (tE X.K g (.dct js is)) :=
  PE.imp (pe_disp h hall hl h0 h15) fun σ H Q ⟨Rt, env, A, rl, p⟩ q hq => by
    have s0 : Sx X.K Rt σ H A (upd H q (.dK [])) env A [q] := rl.sx.new hq
    refine pairs_ev js is σ _ (RtB [q] Rt) env A _ _ hj s0.rl (Post.seq2 s0 p fun ws e2 vs H2 A2 B2 s2 o2 p2 => (⟨ws, e2, A2, B2, s2, o2, p2⟩ : ∃ ws e2 A2 B2, Sx X.K (RtB [q] Rt) σ (upd H q (.dK [])) A H2 e2 A2 B2 ∧ POL X.K ws vs H2 (Av (A2 ++ B2) (RtB [q] Rt)) B2 ∧
      Post X.K g (PO1 X.K) Rt σ H A (if (decide (js.length = ws.length) && decide (js.length ≤ 15)) = true then .ok (.nd (.dct js) ws) e2 else .no) Q)) fun vs H2 le ⟨ws, e2, A2, B2, s2, o2, p2⟩ => ?_
    have hH2 : H2 q = some (.dK []) := s2.go.keep q _ upd_same fun z => by
      obtain ⟨o, e, _⟩ := RE.there _ _ _ rl.re q z
      rw [hq] at e; cases e
    by_cases cc : (decide (js.length = ws.length) && decide (js.length ≤ 15)) = true
    · rw [if_pos cc] at p2
      simp only [Bool.and_eq_true, decide_eq_true_eq] at cc
      have kz1 : (js.zip vs).map (·.1) = js := List.map_fst_zip (by omega)
      have kz2 : (js.zip vs).map (·.2) = vs := List.map_snd_zip (by omega)
      have em : mergeK [] (js.zip vs) = js.zip vs := merge_nodup (js.zip vs) [] (by rw [List.nil_append, kz1]; exact nd)
      refine ⟨hH2, js.zip vs, rfl, by rw [List.length_zip]; omega, ?_⟩
      rw [em]
      have s3 := s0.next s2
      have ow : OwnL X.K H2 (Av (A2 ++ ([q] ++ B2)) Rt) ws vs B2 := Sx.ownL2 o2
      have nt : ∀ xs, ¬ Rd H2 q (.tup xs) := fun xs z => by rcases z with z | ⟨o, z⟩ <;> (rw [hH2] at z; cases z)
      have s4 := s3.wr (o := .dK (js.zip vs)) (D := q) (List.mem_append_left _ List.mem_cons_self) nt
      have avq : Av (A2 ++ ([q] ++ B2)) Rt q := .inl (List.mem_append_right _ (List.mem_append_left _ List.mem_cons_self))
      have nB : q ∉ B2 := fun z => by
        have n1 := (List.nodup_append.mp s3.nd).2.1
        exact (List.nodup_cons.mp n1).1 z
      refine p2 (.ref q) _ A2 (q :: B2) s4 ⟨q, vs, _, B2, rfl, rfl, upd_same, ⟨⟨js.zip vs, rfl, kz1, kz2, nd⟩, rfl⟩, OwnL.mono ws vs B2 (fun b o e z => ?_) (fun b xs e => ?_) (fun b z => .inl z) ow⟩
      · have ne : b ≠ q := fun y => by
          subst y
          rcases z with z | z
          · exact nB z
          · exact z avq
        rw [upd_ne ne]; exact e
      · have ne : b ≠ q := fun y => by subst y; exact nt xs e
        exact Rd.mono e fun u e => by rw [upd_ne ne]; exact e
    · rw [if_neg cc] at p2; exact p2.elim
theorem snd_dct0 : PE X (.Dict [] [] pos) (tE X.K g (.dct [] .nil)) :=
  PE.imp pe_dnewK fun σ H Q ⟨Rt, env, A, rl, p⟩ q hq => by
    have s0 : Sx X.K Rt σ H A (upd H q (.dK [])) env A [q] := rl.sx.new hq
    exact p (.ref q) _ A [q] s0 ⟨q, [], _, [], rfl, rfl, upd_same, ⟨⟨[], rfl, rfl, rfl, List.nodup_nil⟩, rfl⟩, rfl, rfl⟩
/-! ### pop -/
theorem OwnL.erase {K : PySem.W.Frag} {H : Hp} {av : Addr → Prop} : ∀ (ws : List W) (xs : List V) (D : List Addr) (n : Nat) (w : W), OwnL K H av ws xs D → ws[n]? = some w → ∃ v D1 D2, xs[n]? = some v ∧ Own K H av w v D1 ∧ OwnL K H av (ws.eraseIdx n) (xs.eraseIdx n) D2 ∧ ∀ b, (D2 ++ D1).count b ≤ D.count b
  | [], _, _, _, _, _, e => by simp at e
  | u :: ws, xs, D, 0, w, h, e => by
    obtain ⟨v, r, D1, D2, rfl, rfl, h1, h2⟩ := h
    have e' : u = w := by simpa using e
    subst e'
    refine ⟨v, D1, D2, rfl, h1, h2, fun b => ?_⟩
    simp only [List.count_append]
    omega
  | u :: ws, xs, D, n + 1, w, h, e => by
    obtain ⟨v, r, D1, D2, rfl, rfl, h1, h2⟩ := h
    obtain ⟨z, E1, E2, g1, g2, g3, g4⟩ := OwnL.erase ws r D2 n w h2 (by simpa using e)
    refine ⟨z, E1, D1 ++ E2, by simpa using g1, g2, ⟨v, r.eraseIdx n, D1, E2, rfl, rfl, h1, g3⟩, fun b => ?_⟩
    have := g4 b
    simp only [List.count_append] at this ⊢
    omega
theorem snd_popv (hN : X.N[i]? = some x) (hv : Vis X.env.scope x) (hd : (x == ("__debug__" : Str)) = false) (hcd : (x == ("__classdict__" : Str)) = false) (he : PE X a (tE X.K g ia))
    (hbase : attributeBase (.Name x p0) "pop" X.env (eval (.Name x p0) X.env) = eval (.Name x p0) X.env)
    (hfew : ((backTo cpos (starEach [a] X.env)).all (fun x => !x.1) && (backToKw cpos (keywordEach [] X.env)).all (fun x => x.1.isSome)
      && decide ([a].length + ([] : List Keyword).length + (if ([] : List Keyword).isEmpty then 0 else 1) < 30)) = true)
    (hline : (apos.endLine == cpos.line) = true) (hs : starEach [a] X.env = [(false, eval a X.env)]) : PE X (.Call (.Attribute (.Name x p0) "pop" apos) [a] [] cpos) (tE X.K g (.popv i ia)) :=
  PE.imp (pe_bm PySem.F.plainAttrs_list PySem.F.slot_list_pop PySem.F.type_list_pop mt_popAt (pe_var hN hv hd hcd) (pa_cons he pa_nil hs) hbase hfew hline hs rfl) fun σ H Q ⟨Rt, env, A, rl, p⟩ => by
    have no : ∀ {r : R W}, r = .no → Post X.K g (PO1 X.K) Rt σ H A r Q → False := fun e h => by rw [e] at h; exact h
    have p' : Post X.K g (PO1 X.K) Rt σ H A (match env[i]? with
      | some (some (.lst _)) => (evE g.G g.C ia env).bind fun k env1 => (match env1[i]?, k.fz with
        | some (some (.lst ws)), .int j => (match L2.ixN ws.length j with
          | some n => (match ws[n]? with
            | some w => if decide (ws.length ≤ 16777216) = true then .ok w (env1.set i (some (.lst (ws.eraseIdx n)))) else .no
            | none => .no)
          | none => .no)
        | _, _ => .no)
      | _ => .no) Q := p
    cases e : env[i]? with
    | none => exact (no (by simp only [e]) p').elim
    | some o =>
    cases o with
    | none => exact (no (by simp only [e]) p').elim
    | some w0 =>
    cases w0 with
    | val t => exact (no (by simp only [e]) p').elim
    | set t => exact (no (by simp only [e]) p').elim
    | nd _ _ => exact (no (by simp only [e]) p').elim
    | lst ws0 =>
      rw [e] at p'
      obtain ⟨q, xs0, eq, hq⟩ := lst_slot rl.re e
      refine ⟨.ref q, eq, .inl ⟨rfl, xs0, SqL.of hq⟩, Rt, env, A, rl, Post.seq p' fun k e1 v H1 A1 B1 s1 o1 p1 => ?_⟩
      cases e' : e1[i]? with
      | none => exact (no (by simp only [e']) p1).elim
      | some o =>
      cases o with
      | none => exact (no (by simp only [e']) p1).elim
      | some w0 =>
      cases w0 with
      | val t => exact (no (by simp only [e']) p1).elim
      | set t => exact (no (by simp only [e']) p1).elim
      | nd _ _ => exact (no (by simp only [e']) p1).elim
      | lst ws =>
        cases ek : k.fz with
        | int j =>
          simp only [e', ek] at p1
          cases en : L2.ixN ws.length j with
          | none => simp only [en] at p1; exact p1.elim
          | some n =>
            simp only [en] at p1
            cases ew : ws[n]? with
            | none => simp only [ew] at p1; exact p1.elim
            | some w =>
              simp only [ew] at p1
              by_cases cz : decide (ws.length ≤ 16777216) = true
              case neg => rw [if_neg cz] at p1; exact p1.elim
              rw [if_pos cz] at p1
              have cz := of_decide_eq_true cz
              have eB := fzo_int ek o1
              subst eB
              obtain ⟨a', o', D', ea, hx, ⟨xs, eo, hl⟩, mk⟩ := s1.mutG e' rfl
              subst eo
              rw [eq] at ea
              cases ea
              obtain ⟨z, E1, E2, g1, g2, g3, g4⟩ := OwnL.erase ws xs D' n w hl ew
              obtain ⟨A', s4, tr⟩ := mk (.lst (ws.eraseIdx n)) (.lst (xs.eraseIdx n)) E2 E1 ⟨_, rfl, g3⟩ fun b => by rw [List.append_nil]; exact g4 b
              have hlen := OwnL.len ws xs D' hl
              obtain ⟨h1, h2, h3, h4⟩ := ixN_seq en
              refine ⟨q, xs, j, n, z, rfl, by rw [fz_int ek o1], hx, ?_, ?_, by rw [← hlen]; exact h1, g1, p1 z _ A' E1 s4 (tr w z E1 (fun _ h => h) g2)⟩
              · omega
              · omega
        | _ => exact (no (by simp only [e', ek]) p1).elim
/-! ### append to an item of an owned list -/
theorem upd_keep {H : Hp} {b : Addr} {o : HO} {av : Addr → Prop} {S : List Addr} (nb : b ∉ S) (ab : av b) : ∀ c u, H c = some u → (c ∈ S ∨ ¬ av c) → upd H b o c = some u := fun c u e z => by
  have ne : c ≠ b := fun y => by
    subst y
    rcases z with z | z
    · exact nb z
    · exact z ab
  rw [upd_ne ne]; exact e
theorem upd_tups {H : Hp} {b : Addr} {ys : List V} {o : HO} (hb : H b = some (.lst ys)) : ∀ c xs, Rd H c (.tup xs) → Rd (upd H b o) c (.tup xs) := fun c xs e => by
  have ne : c ≠ b := fun y => by
    subst y
    rcases e with e | ⟨u, e⟩ <;> (rw [hb] at e; cases e)
  exact Rd.mono e fun u e => by rw [upd_ne ne]; exact e
theorem OwnL.nest {K : PySem.W.Frag} {H : Hp} {av : Addr → Prop} {w : W} {y : V} {B2 : List Addr} (ow : Own K H av w y B2) : ∀ (ws : List W) (xs : List V) (D : List Addr) (n : Nat) (us : List W), OwnL K H av ws xs D → ws[n]? = some (.lst us) → (D ++ B2).Nodup → (∀ b ∈ D, av b) →
    ∃ b ys, xs[n]? = some (.ref b) ∧ b ∈ D ∧ H b = some (.lst ys) ∧ ys.length = us.length ∧ ∃ D', OwnL K (upd H b (.lst (ys ++ [y]))) av (ws.set n (.lst (us ++ [w]))) xs D' ∧ ∀ c, D'.count c ≤ (D ++ B2).count c
  | [], _, _, _, _, _, e, _, _ => by simp at e
  | u :: ws, xs, D, 0, us, h, e, nd, ha => by
    obtain ⟨v, r, D1, D2, rfl, rfl, h1, h2⟩ := h
    have e' : u = .lst us := by simpa using e
    subst e'
    obtain ⟨b, ys, Du, rfl, rfl, hb, hl⟩ := h1
    have cnt := List.nodup_iff_count.mp nd b
    simp only [List.count_append, List.count_cons, beq_self_eq_true, if_true] at cnt
    have n1 : b ∉ Du ++ B2 := fun z => by
      have := List.count_pos_iff.mpr z
      rw [List.count_append] at this
      omega
    have n2 : b ∉ D2 := fun z => by
      have := List.count_pos_iff.mpr z
      omega
    have ab : av b := ha b (List.mem_append_left _ List.mem_cons_self)
    refine ⟨b, ys, rfl, List.mem_append_left _ List.mem_cons_self, hb, (OwnL.len us ys Du hl).symm, (b :: (Du ++ B2)) ++ D2, ⟨.ref b, r, b :: (Du ++ B2), D2, rfl, rfl, ?_, ?_⟩, fun c => ?_⟩
    · exact ⟨b, ys ++ [y], Du ++ B2, rfl, rfl, upd_same, OwnL.mono _ _ _ (upd_keep n1 ab) (upd_tups hb) (fun _ z => .inl z) (OwnL.snoc us ys Du hl ow)⟩
    · exact OwnL.mono _ _ _ (upd_keep n2 ab) (upd_tups hb) (fun _ z => .inl z) h2
    · simp only [List.count_append, List.count_cons]
      omega
  | u :: ws, xs, D, n + 1, us, h, e, nd, ha => by
    obtain ⟨v, r, D1, D2, rfl, rfl, h1, h2⟩ := h
    have nd' : (D2 ++ B2).Nodup := List.nodup_iff_count.mpr fun c => by
      have := List.nodup_iff_count.mp nd c
      simp only [List.count_append] at this ⊢
      omega
    obtain ⟨b, ys, g1, g2, g3, g4, D', g5, g6⟩ := OwnL.nest ow ws r D2 n us h2 (by simpa using e) nd' fun c hc => ha c (List.mem_append_right _ hc)
    have n1 : b ∉ D1 := fun z => by
      have c1 := List.count_pos_iff.mpr z
      have c2 := List.count_pos_iff.mpr g2
      have := List.nodup_iff_count.mp nd b
      simp only [List.count_append] at this
      omega
    refine ⟨b, ys, by simpa using g1, List.mem_append_right _ g2, g3, g4, D1 ++ D', ⟨v, r, D1, D', rfl, rfl, ?_, g5⟩, fun c => ?_⟩
    · exact Own.mono _ _ _ (upd_keep n1 (ha b (List.mem_append_right _ g2))) (upd_tups g3) (fun _ z => .inl z) h1
    · have := g6 c
      simp only [List.count_append] at this ⊢
      omega
theorem sns_appx {ib ia : E} (hN : X.N[i]? = some x) (hv : Vis X.env.scope x) (hd : (x == ("__debug__" : Str)) = false) (hcd : (x == ("__classdict__" : Str)) = false) (hb : PE X b (tE X.K g ib)) (hpi : PlainIx b) (he : PE X a (tE X.K g ia))
    (hbase : attributeBase (.Subscript (.Name x p0) b p1) "append" X.env (eval (.Subscript (.Name x p0) b p1) X.env) = eval (.Subscript (.Name x p0) b p1) X.env)
    (hfew : ((backTo cpos (starEach [a] X.env)).all (fun x => !x.1) && (backToKw cpos (keywordEach [] X.env)).all (fun x => x.1.isSome)
      && decide ([a].length + ([] : List Keyword).length + (if ([] : List Keyword).isEmpty then 0 else 1) < 30)) = true)
    (hline : (apos.endLine == cpos.line) = true) (hs : starEach [a] X.env = [(false, eval a X.env)])
    (hsw : swapsWith (.Call (.Attribute (.Subscript (.Name x p0) b p1) "append" apos) [a] [] cpos) none pos.line X.env = pure false) :
    PS X (.Expr (.Call (.Attribute (.Subscript (.Name x p0) b p1) "append" apos) [a] [] cpos) pos) (tS X.K g ks (.appx i ib ia)) :=
  PS.imp (ps_expr (pe_bm PySem.F.plainAttrs_list PySem.F.slot_list_append PySem.F.type_list_append mt_append (pe_ix ix_list (pe_var hN hv hd hcd) hb hpi) (pa_cons he pa_nil hs) hbase hfew hline hs rfl) hsw) fun D σ H hl ⟨Rt, env, A, rl, p⟩ => by
    have no : ∀ {r : R F}, r = .no → PostS X.K g ks Rt σ H A r D → False := fun e h => by rw [e] at h; exact h
    have p' : PostS X.K g ks Rt σ H A (match env[i]? with
      | some (some (.lst _)) => (evE g.G g.C ib env).bind fun j env1 => (match env1[i]?, j.fz with
        | some (some (.lst ws)), .int j => (match L2.ixN ws.length j with
          | some n => (match ws[n]? with
            | some (.lst us) => (evE g.G g.C ia (env1.set i none)).bind fun w env2 => if decide (us.length < 16777216) = true then .ok .nx (env2.set i (some (.lst (ws.set n (.lst (us ++ [w])))))) else .no
            | _ => .no)
          | none => .no)
        | _, _ => .no)
      | _ => .no) D := p
    cases e : env[i]? with
    | none => exact (no (by simp only [e]) p').elim
    | some o =>
    cases o with
    | none => exact (no (by simp only [e]) p').elim
    | some w0 =>
    cases w0 with
    | val t => exact (no (by simp only [e]) p').elim
    | set t => exact (no (by simp only [e]) p').elim
    | nd _ _ => exact (no (by simp only [e]) p').elim
    | lst ws0 =>
      rw [e] at p'
      obtain ⟨q, xs0, eq, hq⟩ := lst_slot rl.re e
      refine ⟨.ref q, eq, Rt, env, A, rl, PostS.seq p' fun k e1 v H1 A1 B1 s1 o1 p1 => ?_⟩
      cases e' : e1[i]? with
      | none => exact (no (by simp only [e']) p1).elim
      | some o =>
      cases o with
      | none => exact (no (by simp only [e']) p1).elim
      | some w0 =>
      cases w0 with
      | val t => exact (no (by simp only [e']) p1).elim
      | set t => exact (no (by simp only [e']) p1).elim
      | nd _ _ => exact (no (by simp only [e']) p1).elim
      | lst ws =>
        cases ek : k.fz with
        | int j =>
          simp only [e', ek] at p1
          cases en : L2.ixN ws.length j with
          | none => simp only [en] at p1; exact p1.elim
          | some n =>
            simp only [en] at p1
            cases ew : ws[n]? with
            | none => simp only [ew] at p1; exact p1.elim
            | some wn =>
              cases wn with
              | val t => simp only [ew] at p1; exact p1.elim
              | set t => simp only [ew] at p1; exact p1.elim
              | nd _ _ => simp only [ew] at p1; exact p1.elim
              | lst us =>
                simp only [ew] at p1
                have s0 := s1.drop0
                have rl0 := s0.rl0
                obtain ⟨C1, Bo, C2, eA, _, hw, hu⟩ := RE.slot e1 σ A1 i rl0.re (List.getElem?_eq_some_iff.mp e').1
                obtain ⟨v0, ev, ow⟩ := hw _ e'
                rw [eq] at ev
                cases ev
                subst eA
                have eqm : ∀ b, b ∈ (C1 ++ C2) ++ Bo ↔ b ∈ C1 ++ (Bo ++ C2) := fun b => by
                  simp only [List.mem_append]
                  constructor
                  · rintro ((z | z) | z)
                    · exact .inl z
                    · exact .inr (.inr z)
                    · exact .inr (.inl z)
                  · rintro (z | z | z)
                    · exact .inl (.inl z)
                    · exact .inr z
                    · exact .inl (.inr z)
                have suba : ∀ b, Av ((C1 ++ C2) ++ Bo) Rt b → Av (C1 ++ (Bo ++ C2)) Rt b := fun b z => z.imp (eqm b).mp id
                have re := (hu H1 (Av ((C1 ++ C2) ++ Bo) Rt) (fun _ _ q _ => q) (fun _ _ q => q) (fun b z => .inl (suba b z))).1 (some (.ref q))
                rw [set_same eq] at re
                have nd : ((C1 ++ C2) ++ Bo).Nodup := perm_nodup (by
                  rw [List.perm_iff_count]
                  intro a
                  simp only [List.count_append]
                  omega) rl0.nd
                have sT : Sx X.K Rt σ H1 (C1 ++ (Bo ++ C2)) H1 (e1.set i none) (C1 ++ C2) Bo := ⟨Go.refl.sub fun b hb => (eqm b).mp hb, nd, fun b hb => rl0.rt b ((eqm b).mp hb), rl0.th, (fun b hb => by
                  obtain ⟨o, q, _⟩ := Own.there _ _ Bo ow b hb
                  rw [q]; exact (fun z => by cases z)), re⟩
                have sM : Sx X.K Rt σ H A H1 (e1.set i none) (C1 ++ C2) Bo := s0.next0 sT
                have oT : Own X.K H1 (Av ((C1 ++ C2) ++ Bo) Rt) (.lst ws) (.ref q) Bo := Own.mono _ _ Bo (fun _ _ q _ => q) (fun _ _ q => q) (fun b z => .inl (suba b z)) ow
                obtain ⟨q', xs, D0, eqq, eB0, hq1, hl1⟩ := id oT
                cases eqq
                have hlen := OwnL.len ws xs D0 hl1
                -- the item as it stands now
                have itm : ∃ b ys, xs[n]? = some (.ref b) ∧ H1 b = some (.lst ys) := by
                  obtain ⟨z, E1, E2, g1, g2, _, _⟩ := OwnL.erase ws xs D0 n (.lst us) hl1 ew
                  obtain ⟨b, ys, Du, rfl, _, hb, _⟩ := g2
                  exact ⟨b, ys, g1, hb⟩
                obtain ⟨b0, ys0, gx, gb0⟩ := itm
                refine ⟨q, xs, j, .ref b0, rfl, fz_int ek o1, SqL.of hq1, ?_, .inl ⟨rfl, ys0, SqL.of gb0⟩, RtB Bo Rt, e1.set i none, C1 ++ C2, sM.rl, PostS.seq2 sM p1 fun w e2 v2 H2 A2 B2 s2 o2 p2 => ?_⟩
                · unfold atI
                  rw [← hlen, en]
                  exact gx
                have s3 := sM.next s2
                have w1 := sM.own s2 oT
                have w2 : Own X.K H2 (Av (A2 ++ (Bo ++ B2)) Rt) w v2 B2 := Sx.own2 o2
                have p3 : PostS X.K g ks Rt σ H A (if decide (us.length < 16777216) = true then .ok .nx (e2.set i (some (.lst (ws.set n (.lst (us ++ [w])))))) else .no) D := p2
                by_cases cz : decide (us.length < 16777216) = true
                · rw [if_pos cz] at p3
                  obtain ⟨q2, xs2, D2, eqq, eB2, hq2, hl2⟩ := w1
                  cases eqq
                  subst eB2
                  have exs : xs2 = xs := by
                    have h5 := s2.go.keep q _ hq1 fun z => by
                      rw [eB0] at nd
                      exact (List.nodup_append.mp nd).2.2 q z q List.mem_cons_self rfl
                    rw [h5] at hq2
                    cases hq2
                    rfl
                  subst exs
                  have n3 := (List.nodup_append.mp s3.nd).2.1
                  have n4 : (D2 ++ B2).Nodup := (List.nodup_cons.mp n3).2
                  have nq : q ∉ D2 ++ B2 := (List.nodup_cons.mp n3).1
                  obtain ⟨b, ys, g1, g2, g3, g4, D', g5, g6⟩ := OwnL.nest w2 ws _ D2 n us hl2 ew n4 fun c hc => .inl (List.mem_append_right _ (List.mem_append_left _ (List.mem_cons_of_mem _ hc)))
                  rw [gx] at g1
                  cases g1
                  have nt : ∀ zs, ¬ Rd H2 b0 (.tup zs) := fun zs z => by rcases z with z | ⟨o, z⟩ <;> (rw [g3] at z; cases z)
                  have s4 := s3.wr (o := .lst (ys ++ [v2])) (D := b0) (List.mem_append_left _ (List.mem_cons_of_mem _ g2)) nt
                  have sub : ∀ c ∈ q :: D', c ∈ (q :: D2) ++ B2 := fun c hc => by
                    rcases List.mem_cons.mp hc with rfl | hc
                    · exact List.mem_cons_self
                    · exact List.mem_cons_of_mem _ (List.count_pos_iff.mp (Nat.lt_of_lt_of_le (List.count_pos_iff.mpr hc) (g6 c)))
                  have ndq : (q :: D').Nodup := List.nodup_iff_count.mpr fun c => by
                    have h6 := g6 c
                    have h7 := List.nodup_iff_count.mp n3 c
                    simp only [List.count_cons, List.count_append] at h6 h7 ⊢
                    omega
                  have s5 := s4.drop ndq sub
                  have bq : q ≠ b0 := fun z => nq (by rw [z]; exact List.mem_append_left _ g2)
                  have o5 : Own X.K (upd H2 b0 (.lst (ys ++ [v2]))) (Av (A2 ++ (q :: D')) Rt) (.lst (ws.set n (.lst (us ++ [w])))) (.ref q) (q :: D') :=
                    ⟨q, _, D', rfl, rfl, by rw [upd_ne bq]; exact hq2, OwnL.mono _ _ _ (fun _ _ e _ => e) (fun _ _ e => e) (fun c z => .inl (Sx.avs sub c z)) g5⟩
                  have il : i < e2.length := by
                    rw [RE.len _ _ _ s2.re]
                    exact (List.getElem?_eq_some_iff.mp eq).1
                  obtain ⟨A', s6⟩ := s5.put0 o5 il
                  rw [set_same eq] at s6
                  exact ⟨b0, ys, v2, rfl, rfl, g3, by rw [sizeLine_eq, g4]; exact of_decide_eq_true cz, p3 σ _ A' Kp.refl s6⟩
                · rw [if_neg cz] at p3; exact p3.elim
        | _ => exact (no (by simp only [e', ek]) p1).elim
/-- e.clear(), of a list that nobody names -/
theorem sns_clrt (he : PE X a (tE X.K g ia)) (hbase : attributeBase a "clear" X.env (eval a X.env) = eval a X.env) (hline : (apos.endLine == cpos.line) = true)
    (hsw : swapsWith (.Call (.Attribute a "clear" apos) [] [] cpos) none pos.line X.env = pure false) : PS X (.Expr (.Call (.Attribute a "clear" apos) [] [] cpos) pos) (tS X.K g ks (.clrt ia)) :=
  PS.imp (ps_expr (pe_bm0 PySem.F.plainAttrs_list PySem.F.slot_list_clear PySem.F.type_list_clear mt_clear he hbase hline) hsw) fun D σ H hl ⟨Rt, env, A, rl, p⟩ => by
    refine ⟨Rt, env, A, rl, PostS.seq p fun w e1 v H1 A1 B1 s1 o1 p1 => ?_⟩
    cases w with
    | val t => exact (show False from p1).elim
    | set t => exact (show False from p1).elim
    | nd _ _ => exact (show False from p1).elim
    | lst ws =>
      obtain ⟨q, xs, D', rfl, rfl, hq, hl'⟩ := o1
      have p2 : PostS X.K g ks Rt σ H A (.ok .nx e1) D := p1
      have nt : ∀ zs, ¬ Rd H1 q (.tup zs) := fun zs z => by rcases z with z | ⟨o, z⟩ <;> (rw [hq] at z; cases z)
      have s4 := s1.wr (o := .lst []) (D := q) List.mem_cons_self nt
      exact ⟨.inl ⟨rfl, xs, SqL.of hq⟩, q, xs, rfl, rfl, hq, p2 σ _ A1 Kp.refl s4.drop0⟩
/-- list(d.items()) -/
theorem snd_items (hc : X.calm = true) (he : PE X a (tE X.K g ia)) (hg : Gl X "list") (hm : X.mg "list" = none) (hbase : attributeBase a "items" X.env (eval a X.env) = eval a X.env) (hline : (apos.endLine == cpos.line) = true)
    (hs : starEach [.Call (.Attribute a "items" apos) [] [] cpos] X.env = (false, eval (.Call (.Attribute a "items" apos) [] [] cpos) X.env) :: starEach [] X.env) :
    PE X (.Call (.Name "list" p0) [.Call (.Attribute a "items" apos) [] [] cpos] [] pos) (tE X.K g (.items ia)) :=
  PE.imp (LiI.pe_listItems hc he hg hm (by decide +kernel) hbase hline hs) fun σ H Q ⟨Rt, env, A, rl, p⟩ => by
    refine ⟨Rt, env, A, rl, Post.seq p fun w e1 v H1 A1 B1 s1 o1 p1 => ?_⟩
    obtain ⟨w', ew, p2⟩ := Post.of p1
    unfold itemsT at ew
    split at ew
    · rename_i js ts et
      cases ew
      have fz := s1.fz0 o1
      rw [et] at fz
      obtain ⟨q, xs, o, rfl, hq, na, ⟨kvs, rfl, f1, f2, nd⟩, hl⟩ := fz
      refine ⟨q, kvs, rfl, hq, fun H' r rs keep hr hrs nr hH pr => ?_⟩
      have s0 := s1.drop0
      have mk : Mk X.K H1 (Av (A1 ++ []) Rt) (.lst ((js.zip ts).map fun p => .val (.tup [tKey p.1, p.2]))) (.ref r) H' [r] := by
        refine ⟨keep, List.nodup_cons.mpr ⟨fun z => (by cases z), List.nodup_nil⟩, fun b hb => ?_, ⟨r, rs.map V.ref, [], rfl, rfl, hH, ?_⟩⟩
        · rcases List.mem_cons.mp hb with rfl | z
          · exact hr
          · cases z
        · have hl' : FzL X.K H' (fun b => b ∈ [r] ∨ Av (A1 ++ []) Rt b) ts xs := FzL.mono (fun b o q _ => keep b o q) (fun b xs q => Rd.mono q fun o q => keep b o q) (fun b z => by
            rcases z with z | z
            · rcases List.mem_cons.mp z with rfl | z
              · exact .inr hr
              · cases z
            · exact .inl z) ts xs hl
          clear hH hrs nr p2 et o1 hq na
          subst f1 f2
          clear nd
          induction pr generalizing ts with
          | nil => exact ⟨rfl, rfl⟩
          | @cons t p as kvs h1 h2 ih =>
            cases ts with
            | nil => exact absurd hl.len (by simp)
            | cons u ts =>
              obtain ⟨z, zs, ez, g1, g2⟩ := hl'
              obtain ⟨e1', e2'⟩ := List.cons.inj (show p.2 :: kvs.map (·.2) = z :: zs from ez)
              subst e1' e2'
              obtain ⟨z', zs', ez', g1', g2'⟩ := hl
              obtain ⟨e1', e2'⟩ := List.cons.inj (show p.2 :: kvs.map (·.2) = z' :: zs' from ez')
              subst e1' e2'
              refine ⟨.ref t, as.map V.ref, [], [], rfl, rfl, ⟨rfl, t, [kV p.1, p.2], rfl, SqT.of h1, kV p.1, [p.2], rfl, tKey_fz, p.2, [], rfl, g1, rfl⟩, ih ts g2' g2⟩
      obtain ⟨s4, o4⟩ := s0.made mk
      exact p2 (.ref r) H' A1 [r] s4 o4
    · cases ew
end
end Ev
/-! Ev19: calls of methods, of static ones, of classes. -/
namespace Ev
open PySem L2
section
variable {K : PySem.W.Frag} {g : Cfg} {Rt : Addr → Prop} {H H1 H2 : Hp} {σ : St} {env e1 e2 : Env} {A A1 A2 B B1 B2 : List Addr} {w : W} {ws : List W} {v : V} {vs : List V} {ts : List T} {t : T} {Q : VK} {f n : Nat}
/-- a row of arguments that stand for frozen ones -/
def asOf : List T → As
  | [] => .nil
  | _ :: r => .cons .non (asOf r)
theorem asOf_io : ∀ (ts : List T) (k : Nat), ioPos k (asOf ts) = []
  | [], _ => rfl
  | _ :: r, k => asOf_io r (k + 1)
theorem asOf_sl : ∀ ts : List T, slots (asOf ts) = []
  | [] => rfl
  | _ :: r => asOf_sl r
theorem asOf_at {av : Addr → Prop} : ∀ (ts : List T) (vs : List V), FzL K H av ts vs → VsAt σ (asOf ts) vs
  | [], vs, h => h
  | _ :: r, vs, h => by
    obtain ⟨v, q, e, _, h⟩ := h
    exact ⟨v, q, e, asOf_at r q h⟩
/-- a call whose arguments are all frozen -/
theorem call_fz (s1 : Sx K Rt σ H A H1 e1 A1 []) (o1 : FzL K H1 (Av (A1 ++ []) Rt) ts vs) (hn : vs.length = n)
    (p : Post K g (PO1 K) Rt σ H A (callR [] (g.C f (ts.map .val)) e1) Q) : spC K g.xr g.C f [] n vs H1 Q (WE g.W σ) := by
  have z := call_ev (as := asOf ts) (g := g) (f := f) (ds := []) (dvs := []) (ws := (ts.map .val, [])) (vs := vs) (n := n) (io := []) (Q := Q) (asOf_io ts 0) (fun _ _ => rfl) (by rw [List.append_nil]; exact hn) s1 ⟨FzL.own ts vs o1, (asOf_sl ts).symm, asOf_at ts vs o1⟩ (by
    show Post K g (PO1 K) Rt σ H A (match g.C f (ts.map .val ++ []) with | .ok w outs => _ | .exc c t outs => _ | .no => _) Q
    rw [List.append_nil]
    exact p)
  rw [List.append_nil] at z
  exact z
/-- a value and what is behind it: the value is frozen, what is behind it is owned -/
theorem Sx.fz1 (s1 : Sx K Rt σ H A H1 e1 A1 B1) (o1 : Own K H1 (Av (A1 ++ B1) Rt) w v B1) (s2 : Sx K (RtB B1 Rt) σ H1 A1 H2 e2 A2 B2) : Sx K Rt σ H A H2 e2 A2 B2 ∧ Fz K H2 (Av (A2 ++ B2) Rt) w.fz v ∧
    ∀ ws vs, OwnL K H2 (Av (A2 ++ B2) (RtB B1 Rt)) ws vs B2 → OwnL K H2 (Av (A2 ++ B2) Rt) ws vs B2 := by
  have s3 := s1.next s2
  have nd := List.nodup_append.mp s3.nd
  have nb := List.nodup_append.mp nd.2.1
  refine ⟨s3.drop nb.2.1 fun b hb => List.mem_append_right _ hb, Own.fz (Sx.avs fun b hb => List.mem_append_right _ hb) w v B1 (fun b hb z => ?_) (s1.own s2 o1), fun ws vs ow => OwnL.mono ws vs B2 (fun _ _ q _ => q) (fun _ _ q => q) (fun b z => .inl (z.imp id fun z => .inr z)) ow⟩
  rcases z with z | z
  · rcases List.mem_append.mp z with z | z
    · exact nd.2.2 b z b (List.mem_append_left _ hb) rfl
    · exact nb.2.2 b hb b z rfl
  · exact s3.rt b (List.mem_append_right _ (List.mem_append_left _ hb)) z
/-- two values, both frozen -/
theorem Sx.fz2 {w2 : W} {v2 : V} (s1 : Sx K Rt σ H A H1 e1 A1 B1) (o1 : Own K H1 (Av (A1 ++ B1) Rt) w v B1) (s2 : Sx K (RtB B1 Rt) σ H1 A1 H2 e2 A2 B2) (o2 : Own K H2 (Av (A2 ++ B2) (RtB B1 Rt)) w2 v2 B2) :
    Sx K Rt σ H A H2 e2 A2 [] ∧ Fz K H2 (Av (A2 ++ []) Rt) w.fz v ∧ Fz K H2 (Av (A2 ++ []) Rt) w2.fz v2 := by
  obtain ⟨s3, f1, ow⟩ := s1.fz1 o1 s2
  have o2' : Own K H2 (Av (A2 ++ B2) Rt) w2 v2 B2 := Own.mono w2 v2 B2 (fun _ _ q _ => q) (fun _ _ q => q) (fun b z => .inl (z.imp id fun z => .inr z)) o2
  exact ⟨s3.drop0, Fz.mono (fun _ _ q _ => q) (fun _ _ q => q) (fun b z => .inl (Sx.avs (fun b hb => by cases hb) b z)) _ _ f1, s3.fz0 o2'⟩
/-- rows -/
theorem Sx.fzL2 {ws2 : List W} {vs2 : List V} (s1 : Sx K Rt σ H A H1 e1 A1 B1) (o1 : OwnL K H1 (Av (A1 ++ B1) Rt) ws vs B1) (s2 : Sx K (RtB B1 Rt) σ H1 A1 H2 e2 A2 B2) (o2 : OwnL K H2 (Av (A2 ++ B2) (RtB B1 Rt)) ws2 vs2 B2) :
    Sx K Rt σ H A H2 e2 A2 [] ∧ FzL K H2 (Av (A2 ++ []) Rt) (fzs ws) vs ∧ FzL K H2 (Av (A2 ++ []) Rt) (fzs ws2) vs2 := by
  have s3 := s1.next s2
  have nd := List.nodup_append.mp s3.nd
  refine ⟨s3.drop0, OwnL.fz (Sx.avs fun b hb => by cases hb) ws vs B1 (fun b hb z => ?_) (s1.ownL s2 o1), OwnL.fz (Sx.avs fun b hb => by cases hb) ws2 vs2 B2 (fun b hb z => ?_) (Sx.ownL2 (Rt := Rt) (B1 := B1) o2)⟩
  · rcases z with z | z
    · rw [List.append_nil] at z
      exact nd.2.2 b z b (List.mem_append_left _ hb) rfl
    · exact s3.rt b (List.mem_append_right _ (List.mem_append_left _ hb)) z
  · rcases z with z | z
    · rw [List.append_nil] at z
      exact nd.2.2 b z b (List.mem_append_right _ hb) rfl
    · exact s3.rt b (List.mem_append_right _ (List.mem_append_right _ hb)) z
theorem lookup_none {m : Str} : ∀ kvs : List (Str × V), (kvs.map (·.1)).contains m = false → kvs.lookup m = none
  | [], _ => rfl
  | p :: r, h => by
    rw [List.map_cons, List.contains_cons, Bool.or_eq_false_iff] at h
    rw [List.lookup_cons, h.1]
    exact lookup_none r h.2
/-- an instance, frozen -/
theorem isOf_fz {c : Str} {av : Addr → Prop} (h : isOf c t = true) (hf : Fz K H av t v) : ∃ a dx kvs, v = .ref a ∧ H a = some (.ins (He.ga K c) dx kvs) := by
  cases t with
  | nd n ts =>
    cases n with
    | ins c' fs =>
      obtain ⟨a, xs, o, rfl, ha, _, ⟨dx, kvs, rfl, _, _⟩, _⟩ := hf
      have e : c' = c := of_decide_eq_true h
      subst e
      exact ⟨a, dx, kvs, rfl, ha⟩
    | dct ks => cases h
    | dcl ks => cases h
  | _ => cases h
theorem isIns_fz {c m : Str} {av : Addr → Prop} (h : isIns c m t = true) (hf : Fz K H av t v) : ∃ a dx kvs, v = .ref a ∧ H a = some (.ins (He.ga K c) dx kvs) ∧ kvs.lookup m = none := by
  cases t with
  | nd n ts =>
    cases n with
    | ins c' fs =>
      obtain ⟨a, xs, o, rfl, ha, _, ⟨dx, kvs, rfl, e1, _⟩, _⟩ := hf
      have h : (decide (c' = c) && !fs.contains m) = true := h
      rw [Bool.and_eq_true] at h
      have e : c' = c := of_decide_eq_true h.1
      subst e
      refine ⟨a, dx, kvs, rfl, ha, ?_⟩
      have h2 : fs.contains m = false := by simpa using h.2
      subst e1
      exact lookup_none kvs h2
    | dct ks => cases h
    | dcl ks => cases h
  | _ => cases h
end
/-! ### defs at an address -/
/-- a def that stands at an address; every parameter is given -/
structure FnA (P : Program) (w : World) (K : PySem.W.Frag) (mg : Str → Option Value) (base : Heap) (xr : XR) (C : Calls) (d : Nat) (f : Nat) (fa : Addr) (io : List Nat) (n : Nat) : Prop where
  ex : ∃ fd ps, FnOk P w K mg base (L2.CX P w) d fa fd ps (spC K xr C f io n) ∧ PySem.W.keepIn K (.ref fa) = true ∧ Binds K fd ps []
section
variable {X : Cx} {CX : CXT} {k : Nat} {f C : Addr} {fd : FuncData} {ps : List Str} {sp : Sp} {E : St → XK} {x m : Str} {p pos apos : Pos} {e o : Expr} {es : List Expr} {ta : TE} {t : TA}
/-- a method's call, the exceptions by the slots -/
theorem pe_methS {pl : Sem Bool} (he : PE X o ta) (c : Cls X.K C) (hm : Meth X.K C m f) (F : FnOk X.prog X.w X.K X.mg X.base CX k f fd ps sp) (hr : Room k X.A) (hb : Binds X.K fd ps []) (hx : ∀ σ, PassesAt CX X σ (E σ)) (ha : PA X (e :: es) t)
    (hst : starEach (e :: es) X.env = (false, eval e X.env) :: starEach es X.env) (hpl : (backTo pos (starEach es X.env)).any (·.1) = false)
    (ht : eval (.Call (.Attribute o m apos) (e :: es) [] pos) X.env = (do
      let ov ← eval o X.env
      standAt apos.atName
      let (f, first) ← holding [ov] (getMethod ov m pl)
      callWith pos f first (backTo pos (starEach (e :: es) X.env)) (backToKw pos (keywordEach [] X.env)))) :
    PE X (.Call (.Attribute o m apos) (e :: es) [] pos) (fun σ H Q => ta σ H fun x H1 => ∃ a dx fs, x = .ref a ∧ H1 a = some (.ins C dx fs) ∧ fs.lookup m = none ∧ t σ H1 fun vs H2 => sp (x :: vs) H2 Q (E σ)) := by
  refine ⟨fun pins s σ H Q I h => ?_⟩
  refine PySem.W.methodCall_KW (pl := pl) (thn (he.run pins s σ H _ I h) fun u s1 ⟨y, H1, I1, ry, a, dx, fs, ey, ea, l, q⟩ => ?_) ht
  subst ey
  obtain rfl : u = Value.ref a := ry
  refine getmeth_ok I1 ea c hm l ?_
  refine PySem.W.callWith_K (first := [.ref a]) (h₀ := X.base) I.ok.mod.kin hm.kp (thn (ha.run pos pins s1 σ H1 _ I1 q) fun us s2 ⟨vs, H2, I2, r, q2⟩ => ⟨I2.kIn, ?_⟩) hst hpl
  exact run_fnS (us := .ref a :: us) (vs := .ref a :: vs) F hr hb (hx σ) I2 (.cons rfl r) q2
theorem pe_methS0 {pl : Sem Bool} (he : PE X o ta) (c : Cls X.K C) (hm : Meth X.K C m f) (F : FnOk X.prog X.w X.K X.mg X.base CX k f fd ps sp) (hr : Room k X.A) (hb : Binds X.K fd ps []) (hx : ∀ σ, PassesAt CX X σ (E σ))
    (ht : eval (.Call (.Attribute o m apos) [] [] pos) X.env = (do
      let ov ← eval o X.env
      standAt apos.atName
      let (f, first) ← holding [ov] (getMethod ov m pl)
      callWith pos f first (backTo pos (starEach [] X.env)) (backToKw pos (keywordEach [] X.env)))) :
    PE X (.Call (.Attribute o m apos) [] [] pos) (fun σ H Q => ta σ H fun x H1 => ∃ a dx fs, x = .ref a ∧ H1 a = some (.ins C dx fs) ∧ fs.lookup m = none ∧ sp [x] H1 Q (E σ)) := by
  refine ⟨fun pins s σ H Q I h => ?_⟩
  refine PySem.W.methodCall_KW (pl := pl) (thn (he.run pins s σ H _ I h) fun u s1 ⟨y, H1, I1, ry, a, dx, fs, ey, ea, l, q⟩ => ?_) ht
  subst ey
  obtain rfl : u = Value.ref a := ry
  refine getmeth_ok I1 ea c hm l ?_
  exact PySem.W.callWith_K0 (first := [.ref a]) I1.kIn hm.kp (run_fnS (us := [.ref a]) (vs := [.ref a]) F hr hb (hx σ) I1 (.cons rfl .nil) q)
/-- f() -/
theorem pe_callS0 (F : FnOk X.prog X.w X.K X.mg X.base CX k f fd ps sp) (hr : Room k X.A) (hg : Gl X x) (hm : X.mg x = some (.ref f)) (hk : PySem.W.keepIn X.K (.ref f) = true) (hb : Binds X.K fd ps []) (hx : ∀ σ, PassesAt CX X σ (E σ))
    (hdb : (x == ("__debug__" : Str)) = false) : PE X (.Call (.Name x p) [] [] pos) (fun σ H Q => sp [] H Q (E σ)) := by
  refine ⟨fun pins s σ H Q I h => ?_⟩
  refine wpAny_Call_Name_kw (ld_glob I hg hm ?_ hdb)
  exact PySem.W.callWith_K0 I.kIn hk (run_fnS (us := []) (vs := []) F hr hb (hx σ) I .nil h)
end
/-- what a static method of a class needs: its record at p, its def at f -/
structure Stat (K : PySem.W.Frag) (C : Addr) (m : Str) (p f : Addr) : Prop where
  rd : ∃ mc, ClX.CRead K C mc ∧ PySem.W.findCls K (.ref C) mc m = some (.get (.builtin "staticmethod.__get__") (.ref p) .none (.ref C))
  rc : ∃ rest, PySem.W.recIn K p "staticmethod" = some (.ref f :: rest)
section
variable {X : Cx} {CX : CXT} {k : Nat} {f C q : Addr} {fd : FuncData} {ps : List Str} {sp : Sp} {E : St → XK} {x m : Str} {p pos apos : Pos} {e : Expr} {es : List Expr} {t : TA}
theorem getstat_ok {pins : List (Addr × Obj)} {σ : St} {H : Hp} {s : Shared} {pl : Sem Bool} {A : Around} {E : Value → Shared → Prop} {Q : Value × List Value → Shared → Prop} (I : Inv X pins σ H s) (S : Stat X.K C m q f) (h : ∀ s', Inv X pins σ H s' → Q (.ref f, []) s') : wpAny (model X.prog X.w) A (getMethod (.ref C) m pl) Q E s := by
  obtain ⟨⟨mc, r, fc⟩, rest, hp⟩ := S
  refine PySem.W.method_cls I.kIn r.ga (PySem.W.cls_bind I.kIn r.rd fc ?_)
  have J := I.tok (s.toks + 1)
  exact wpAny_call (PySem.W.sm_get (s := { s with toks := s.toks + 1 }) J.kIn hp (PySem.W.handed_on rfl (h _ J)))
theorem pe_statS {pl : Sem Bool} (hC : X.mg x = some (.ref C)) (hg : Gl X x) (hd : (x == ("__debug__" : Str)) = false) (S : Stat X.K C m q f) (F : FnOk X.prog X.w X.K X.mg X.base CX k f fd ps sp) (hk : PySem.W.keepIn X.K (.ref f) = true) (hr : Room k X.A) (hb : Binds X.K fd ps []) (hx : ∀ σ, PassesAt CX X σ (E σ)) (ha : PA X (e :: es) t)
    (hst : starEach (e :: es) X.env = (false, eval e X.env) :: starEach es X.env) (hpl : (backTo pos (starEach es X.env)).any (·.1) = false)
    (ht : eval (.Call (.Attribute (.Name x p) m apos) (e :: es) [] pos) X.env = (do
      let ov ← eval (.Name x p) X.env
      standAt apos.atName
      let (f, first) ← holding [ov] (getMethod ov m pl)
      callWith pos f first (backTo pos (starEach (e :: es) X.env)) (backToKw pos (keywordEach [] X.env)))) :
    PE X (.Call (.Attribute (.Name x p) m apos) (e :: es) [] pos) (fun σ H Q => t σ H fun vs H2 => sp vs H2 Q (E σ)) := by
  refine ⟨fun pins s σ H Q I h => ?_⟩
  refine PySem.W.methodCall_KW (pl := pl) (ld_glob I hg hC ?_ hd) ht
  refine getstat_ok I S fun s1 I1 => ?_
  refine PySem.W.callWith_K (first := []) (h₀ := X.base) I.ok.mod.kin hk (thn (ha.run pos pins s1 σ H _ I1 h) fun us s2 ⟨vs, H2, I2, r, q2⟩ => ⟨I2.kIn, ?_⟩) hst hpl
  exact run_fnS F hr hb (hx σ) I2 r q2
theorem pe_statS0 {pl : Sem Bool} (hC : X.mg x = some (.ref C)) (hg : Gl X x) (hd : (x == ("__debug__" : Str)) = false) (S : Stat X.K C m q f) (F : FnOk X.prog X.w X.K X.mg X.base CX k f fd ps sp) (hk : PySem.W.keepIn X.K (.ref f) = true) (hr : Room k X.A) (hb : Binds X.K fd ps []) (hx : ∀ σ, PassesAt CX X σ (E σ))
    (ht : eval (.Call (.Attribute (.Name x p) m apos) [] [] pos) X.env = (do
      let ov ← eval (.Name x p) X.env
      standAt apos.atName
      let (f, first) ← holding [ov] (getMethod ov m pl)
      callWith pos f first (backTo pos (starEach [] X.env)) (backToKw pos (keywordEach [] X.env)))) :
    PE X (.Call (.Attribute (.Name x p) m apos) [] [] pos) (fun σ H Q => sp [] H Q (E σ)) := by
  refine ⟨fun pins s σ H Q I h => ?_⟩
  refine PySem.W.methodCall_KW (pl := pl) (ld_glob I hg hC ?_ hd) ht
  refine getstat_ok I S fun s1 I1 => ?_
  exact PySem.W.callWith_K0 (first := []) I1.kIn hk (run_fnS (us := []) (vs := []) F hr hb (hx σ) I1 .nil h)
end
/-! ### the rules -/
section
variable {X : Cx} {g : Cfg} {pos p0 p1 apos : Pos} {a b e o : Expr} {ia ib : E} {x m c : Str} {es : List Expr} {as : As} {k f n : Nat} {fa C q : Addr} {io : List Nat}
theorem snd_call0 {dvs : List V} (F : FnC X.prog X.w X.K X.mg X.base g.xr g.C k f x io 0 []) (hr : Room k X.A) (tk : Takes X g.W) (hg : Gl X x) (hio : io = []) (hdb : (x == ("__debug__" : Str)) = false) : PE X (.Call (.Name x p0) [] [] pos) (tE X.K g (.call f .nil [])) := by
  obtain ⟨fa, fd, ps, dd, F, hm, hk, hb, hd⟩ := F.ex
  cases hd
  subst hio
  refine PE.imp (pe_callS0 F hr hg hm hk hb (fun σ => passAt tk σ) hdb) fun σ H Q ⟨Rt, env, A, rl, p⟩ => ?_
  exact call_fz (ts := []) rl.sx rfl rfl p
theorem snd_stat0 {pl : Sem Bool} (hC : X.mg x = some (.ref C)) (hg : Gl X x) (hd : (x == ("__debug__" : Str)) = false) (S : Stat X.K C m q fa) (F : FnA X.prog X.w X.K X.mg X.base g.xr g.C k f fa [] 0) (hr : Room k X.A) (tk : Takes X g.W)
    (ht : eval (.Call (.Attribute (.Name x p0) m apos) [] [] pos) X.env = (do
      let ov ← eval (.Name x p0) X.env
      standAt apos.atName
      let (f, first) ← holding [ov] (getMethod ov m pl)
      callWith pos f first (backTo pos (starEach [] X.env)) (backToKw pos (keywordEach [] X.env)))) : PE X (.Call (.Attribute (.Name x p0) m apos) [] [] pos) (tE X.K g (.call f .nil [])) := by
  obtain ⟨fd, ps, F, hk, hb⟩ := F.ex
  refine PE.imp (pe_statS0 hC hg hd S F hk hr hb (fun σ => passAt tk σ) ht) fun σ H Q ⟨Rt, env, A, rl, p⟩ => ?_
  exact call_fz (ts := []) rl.sx rfl rfl p
theorem snd_stat {pl : Sem Bool} (hC : X.mg x = some (.ref C)) (hg : Gl X x) (hd : (x == ("__debug__" : Str)) = false) (S : Stat X.K C m q fa) (F : FnA X.prog X.w X.K X.mg X.base g.xr g.C k f fa io n) (hr : Room k X.A) (tk : Takes X g.W) (hio : ioPos 0 as = io) (hn : es.length + 1 = n)
    (ha : PA X (a :: es) (tA X.K g as)) (hvl : ∀ vs σ, VsAt σ as vs → vs.length = es.length + 1) (hst : starEach (a :: es) X.env = (false, eval a X.env) :: starEach es X.env) (hpl : (backTo pos (starEach es X.env)).any (·.1) = false)
    (ht : eval (.Call (.Attribute (.Name x p0) m apos) (a :: es) [] pos) X.env = (do
      let ov ← eval (.Name x p0) X.env
      standAt apos.atName
      let (f, first) ← holding [ov] (getMethod ov m pl)
      callWith pos f first (backTo pos (starEach (a :: es) X.env)) (backToKw pos (keywordEach [] X.env)))) : PE X (.Call (.Attribute (.Name x p0) m apos) (a :: es) [] pos) (tE X.K g (.call f as [])) := by
  obtain ⟨fd, ps, F, hk, hb⟩ := F.ex
  refine PE.imp (pe_statS hC hg hd S F hk hr hb (fun σ => passAt tk σ) ha hst hpl ht) fun σ H Q ⟨Rt, env, A, rl, p⟩ => ?_
  refine ⟨Rt, env, A, rl, Post.seq p fun ws e1 vs H1 A1 B1 s1 o1 p1 => ?_⟩
  have z := call_ev (ds := []) (dvs := []) (n := n) hio (fun _ _ => rfl) (by rw [List.append_nil, hvl vs σ o1.2.2]; exact hn) s1 o1 p1
  rw [List.append_nil] at z
  exact z
/-- o.m(..) -/
theorem snd_meth {pl : Sem Bool} (he : PE X o (tE X.K g ia)) (cl : Cls X.K (He.ga X.K c)) (hm : Meth X.K (He.ga X.K c) m fa) (F : FnA X.prog X.w X.K X.mg X.base g.xr g.C k f fa io n) (hr : Room k X.A) (tk : Takes X g.W) (hio : ioPos 1 as = io) (hn : es.length + 2 = n)
    (ha : PA X (a :: es) (tA X.K g as)) (hvl : ∀ vs σ, VsAt σ as vs → vs.length = es.length + 1) (hst : starEach (a :: es) X.env = (false, eval a X.env) :: starEach es X.env) (hpl : (backTo pos (starEach es X.env)).any (·.1) = false)
    (ht : eval (.Call (.Attribute o m apos) (a :: es) [] pos) X.env = (do
      let ov ← eval o X.env
      standAt apos.atName
      let (f, first) ← holding [ov] (getMethod ov m pl)
      callWith pos f first (backTo pos (starEach (a :: es) X.env)) (backToKw pos (keywordEach [] X.env)))) : PE X (.Call (.Attribute o m apos) (a :: es) [] pos) (tE X.K g (.meth c m f ia as [])) := by
  obtain ⟨fd, ps, F, hk, hb⟩ := F.ex
  refine PE.imp (pe_methS he cl hm F hr hb (fun σ => passAt tk σ) ha hst hpl ht) fun σ H Q ⟨Rt, env, A, rl, p⟩ => ?_
  refine ⟨Rt, env, A, rl, Post.seq p fun w e1 v H1 A1 B1 s1 o1 p1 => ?_⟩
  by_cases hi : isIns c m w.fz = true
  case neg => rw [if_neg hi] at p1; exact p1.elim
  rw [if_pos hi] at p1
  obtain ⟨ad, dx, kvs, rfl, ea, el⟩ := isIns_fz hi (s1.fz0 o1)
  refine ⟨ad, dx, kvs, rfl, ea, el, RtB B1 Rt, e1, A1, s1.rl, Post.seq2 s1 p1 fun ws e2 vs H2 A2 B2 s2 o2 p2 => ?_⟩
  obtain ⟨s3, f3, ow⟩ := s1.fz1 o1 s2
  have z := call_ev (as := .cons ia as) (f := f) (ds := []) (dvs := []) (n := n) (ws := (.val w.fz :: ws.1, ws.2)) (vs := .ref ad :: vs) hio (fun _ _ => rfl) (by rw [List.append_nil, List.length_cons, hvl vs σ o2.2.2]; exact hn) s3
    ⟨⟨.ref ad, vs, [], B2, rfl, rfl, ⟨rfl, f3⟩, ow _ _ o2.1⟩, o2.2.1, .ref ad, vs, rfl, o2.2.2⟩ p2
  rw [List.append_nil] at z
  exact z
theorem snd_meth0 {pl : Sem Bool} (he : PE X o (tE X.K g ia)) (cl : Cls X.K (He.ga X.K c)) (hm : Meth X.K (He.ga X.K c) m fa) (F : FnA X.prog X.w X.K X.mg X.base g.xr g.C k f fa [] 1) (hr : Room k X.A) (tk : Takes X g.W)
    (ht : eval (.Call (.Attribute o m apos) [] [] pos) X.env = (do
      let ov ← eval o X.env
      standAt apos.atName
      let (f, first) ← holding [ov] (getMethod ov m pl)
      callWith pos f first (backTo pos (starEach [] X.env)) (backToKw pos (keywordEach [] X.env)))) : PE X (.Call (.Attribute o m apos) [] [] pos) (tE X.K g (.meth c m f ia .nil [])) := by
  obtain ⟨fd, ps, F, hk, hb⟩ := F.ex
  refine PE.imp (pe_methS0 he cl hm F hr hb (fun σ => passAt tk σ) ht) fun σ H Q ⟨Rt, env, A, rl, p⟩ => ?_
  refine ⟨Rt, env, A, rl, Post.seq p fun w e1 v H1 A1 B1 s1 o1 p1 => ?_⟩
  by_cases hi : isIns c m w.fz = true
  case neg => rw [if_neg hi] at p1; exact p1.elim
  rw [if_pos hi] at p1
  obtain ⟨ad, dx, kvs, rfl, ea, el⟩ := isIns_fz hi (s1.fz0 o1)
  exact ⟨ad, dx, kvs, rfl, ea, el, call_fz (ts := [w.fz]) s1.drop0 ⟨_, _, rfl, s1.fz0 o1, rfl⟩ rfl p1⟩
/-- e.f, a property -/
theorem snd_prop {d : Addr} (he : PE X o (tE X.K g ia)) (cl : Cls X.K (He.ga X.K c)) (hp : PropOf X.K (He.ga X.K c) m d fa) (F : FnA X.prog X.w X.K X.mg X.base g.xr g.C k f fa [] 1) (hr : Room (k + 1) X.A) (hab : attributeBase o m X.env (eval o X.env) = eval o X.env) :
    PE X (.Attribute o m pos) (tE X.K g (.prop c f ia)) := by
  obtain ⟨fd, ps, F, hk, hb⟩ := F.ex
  have hx : Passes (L2.CX X.prog X.w) X.nox fun _ _ _ => False := fun pins σ H s e s' I c => by
    obtain ⟨_, _, _, _, _, _, _, _, _, _, _, _, z⟩ := c
    exact z
  refine PE.imp (pe_prop he cl hp F hr hb .nil hx hab) fun σ H Q ⟨Rt, env, A, rl, p⟩ => ?_
  refine ⟨Rt, env, A, rl, Post.seq p fun w e1 v H1 A1 B1 s1 o1 p1 => ?_⟩
  by_cases hi : isOf c w.fz = true
  case neg => rw [if_neg hi] at p1; exact p1.elim
  rw [if_pos hi] at p1
  obtain ⟨ad, dx, kvs, rfl, ea⟩ := isOf_fz hi (s1.fz0 o1)
  refine ⟨ad, dx, kvs, rfl, ea, ?_⟩
  have z : spC X.K g.xr g.C f [] 1 [V.ref ad] H1 Q fun _ _ _ => False := by
    have y := call_fz (g := ⟨g.G, g.C, g.xr, fun _ _ _ _ => False, g.xm⟩) (f := f) (n := 1) (Q := Q) (ts := [w.fz]) s1.drop0 ⟨_, _, rfl, s1.fz0 o1, rfl⟩ rfl (by
      show Post _ _ _ _ _ _ _ (callR [] (g.C f [.val w.fz]) e1) Q
      cases e : g.C f [.val w.fz] with
      | no => rw [e] at p1; exact p1.elim
      | exc c t os => rw [e] at p1; exact p1.elim
      | ok w' os =>
        rw [e] at p1
        exact p1)
    exact y
  exact z
end
end Ev
/-! Ev20: instances made; isinstance with own classes. -/
namespace Ev
open PySem L2
section
variable {K : PySem.W.Frag} {g : Cfg} {Rt : Addr → Prop} {H H1 H2 : Hp} {σ : St} {env e1 e2 : Env} {A A1 A2 B B1 B2 : List Addr} {w : W} {ws : List W} {v : V} {vs : List V} {ts : List T} {t : T} {Q : VK} {f n : Nat} {c : Str} {x dx : Addr}
theorem newR_ok {r : CR} {env : Env} {R : Prop} (h : Post K g (PO1 K) Rt σ H A (newR r env) Q) (h1 : ∀ w, r = .ok (.val .non) [some w] → Post K g (PO1 K) Rt σ H A (.ok w env) Q → R) (h2 : ∀ c t os, r = .exc c t os → Post K g (PO1 K) Rt σ H A (.exc c t env) Q → R) : R := by
  unfold newR at h
  split at h
  · exact h1 _ rfl h
  · exact h2 _ _ _ rfl h
  · exact h.elim
/-- __init__ on an instance that is new and empty -/
theorem new_ev0 (s4 : Sx K Rt σ H A H2 e1 A1 [x]) (hxi : H2 x = some (.ins (He.ga K c) dx [])) (fz2 : FzL K H2 (Av (A1 ++ [x]) Rt) ts vs) (hn : vs.length + 1 = n)
    (p : Post K g (PO1 K) Rt σ H A (newR (g.C f (.nd (.ins c []) [] :: ts.map .val)) e1) Q) : spC K g.xr g.C f [0] n (.ref x :: vs) H2 (fun v H2 => v = .non ∧ Q (.ref x) H2) (WE g.W σ) := by
  have avq : ∀ b, Av [x] (RtB A1 Rt) b → Av (A1 ++ [x]) Rt b := fun b z => by
    rcases z with z | z | z
    · exact .inl (List.mem_append_right _ z)
    · exact .inl (List.mem_append_left _ z)
    · exact .inr z
  have ow : OwnL K H2 (Av (A1 ++ [x]) Rt) (.nd (.ins c []) [] :: ts.map .val) (.ref x :: vs) [x] :=
    ⟨.ref x, vs, [x], [], rfl, rfl, ⟨x, [], _, [], rfl, rfl, hxi, ⟨⟨dx, [], rfl, rfl, rfl⟩, rfl⟩, rfl, rfl⟩, FzL.own ts vs fz2⟩
  refine ⟨by rw [List.length_cons]; exact hn, RtB A1 Rt, .nd (.ins c []) [] :: ts.map .val, [x], ⟨by simp, fun b hb z => ?_, fun b z => ?_, OwnL.re _ _ _ (OwnL.mono _ _ _ (fun _ _ q _ => q) (fun _ _ q => q) (fun b z => .inl (avq b z)) ow)⟩, ?_⟩
  · rcases z with z | z
    · exact (List.nodup_append.mp s4.nd).2.2 b z b hb rfl
    · exact s4.rt b (List.mem_append_right _ hb) z
  · rcases z with z | z
    · obtain ⟨o, q, _⟩ := RE.there _ _ _ s4.re b z
      rw [q]; exact fun z => by cases z
    · exact s4.th b z
  · refine newR_ok p (fun w e p => ?_) fun c t os e p => ?_
    · rw [e]
      intro v H3 A2 B2 s5 o5
      obtain ⟨e5, e6⟩ := o5
      subst e5
      refine ⟨e6, ?_⟩
      obtain ⟨s6, re6⟩ := s4.back s5
      obtain ⟨v, r, B, D, e7, e8, o7, e9⟩ := re6
      cases e7
      obtain ⟨_, e9⟩ := e9
      subst e9 e8
      rw [List.append_nil, List.append_nil] at s6 o7
      exact p (.ref x) H3 A1 B s6 o7
    · rw [e]
      intro cls d H3 A2 s5 px
      obtain ⟨s6, re6⟩ := s4.back s5
      refine p cls d H3 A1 s6.drop0 (g.xm c t H3 _ _ cls d (fun b z => ?_) px)
      rcases z with z | z
      · rw [List.append_nil] at z
        exact .inr (.inl z)
      · exact .inr (.inr z)
theorem new_st (s : Sx K Rt σ H A H1 e1 A1 []) (fz : FzL K H1 (Av (A1 ++ []) Rt) ts vs) (hx : H1 x = none) (hdx : H1 dx = none) (hne : dx ≠ x) :
    Sx K Rt σ H A (upd (upd H1 dx (.own x)) x (.ins (He.ga K c) dx [])) e1 A1 [x] ∧ FzL K (upd (upd H1 dx (.own x)) x (.ins (He.ga K c) dx [])) (Av (A1 ++ [x]) Rt) ts vs := by
  have hx2 : upd H1 dx (.own x) x = none := by
    rw [upd_ne fun z => hne z.symm]
    exact hx
  have s3 := (s.new hdx (o := .own x)).new hx2 (o := .ins (He.ga K c) dx [])
  have s4 := s3.drop (B' := [x]) (by simp) fun b hb => by
    cases List.mem_singleton.mp hb
    exact List.mem_cons_self
  have sub : ∀ b, Av (A1 ++ [x]) Rt b → Av (A1 ++ [x, dx]) Rt b := Sx.avs fun b hb => by
    cases List.mem_singleton.mp hb
    exact List.mem_cons_self
  have fz2 := FzL.mono (av' := Av (A1 ++ [x]) Rt) (fun _ _ q _ => q) (fun _ _ q => q) (fun b z => .inl (sub b z)) ts vs (FzL.newp hx2 (o := .ins (He.ga K c) dx []) (FzL.newp hdx (o := .own x) fz))
  exact ⟨s4, fz2⟩
/-- __init__ on a new instance -/
theorem new_ev (s : Sx K Rt σ H A H1 e1 A1 []) (fz : FzL K H1 (Av (A1 ++ []) Rt) ts vs) (hx : H1 x = none) (hdx : H1 dx = none) (hne : dx ≠ x) (hn : vs.length + 1 = n)
    (p : Post K g (PO1 K) Rt σ H A (newR (g.C f (.nd (.ins c []) [] :: ts.map .val)) e1) Q) :
    spC K g.xr g.C f [0] n (.ref x :: vs) (upd (upd H1 dx (.own x)) x (.ins (He.ga K c) dx [])) (fun v H2 => v = .non ∧ Q (.ref x) H2) (WE g.W σ) := by
  obtain ⟨s4, fz2⟩ := new_st (c := c) s fz hx hdx hne
  exact new_ev0 s4 upd_same fz2 hn p
/-! ### arguments in the parameters' order -/
def pickA {α : Type} (us mv ws : List α) : Ar → Option α
  | .p i => us[i]?
  | .k i => ws[i]?
  | .d j _ => mv[j]?
def gA (ar : List Ar) {α : Type} : List α → List α → List α → List α
  | u :: us, mv, ws => u :: ar.filterMap (pickA us mv ws)
  | [], _, _ => []
theorem vals_at : ∀ {vs : List V} {us : List Value} (i : Nat), Vals vs us → (vs[i]? = none ∧ us[i]? = none) ∨ ∃ v u, vs[i]? = some v ∧ us[i]? = some u ∧ RelV v u
  | _, _, i, .nil => .inl ⟨by simp, by simp⟩
  | _, _, 0, .cons r t => .inr ⟨_, _, rfl, rfl, r⟩
  | _, _, i + 1, .cons r t => by simpa using vals_at i t
theorem pick_rel {vs mz zs : List V} {us mv ws : List Value} (h1 : Vals vs us) (h2 : Vals mz mv) (h3 : Vals zs ws) (a : Ar) : (pickA vs mz zs a = none ∧ pickA us mv ws a = none) ∨ ∃ v u, pickA vs mz zs a = some v ∧ pickA us mv ws a = some u ∧ RelV v u := by
  cases a with
  | p i => exact vals_at i h1
  | k i => exact vals_at i h3
  | d j t => exact vals_at j h2
theorem picks_rel {vs mz zs : List V} {us mv ws : List Value} (h1 : Vals vs us) (h2 : Vals mz mv) (h3 : Vals zs ws) : ∀ ar : List Ar, Vals (ar.filterMap (pickA vs mz zs)) (ar.filterMap (pickA us mv ws))
  | [] => .nil
  | a :: ar => by
    rcases pick_rel h1 h2 h3 a with ⟨e1, e2⟩ | ⟨v, u, e1, e2, r⟩
    · rw [List.filterMap_cons, List.filterMap_cons, e1, e2]
      exact picks_rel h1 h2 h3 ar
    · rw [List.filterMap_cons, List.filterMap_cons, e1, e2]
      exact .cons r (picks_rel h1 h2 h3 ar)
theorem gA_rel (ar : List Ar) {vs mz zs : List V} {us mv ws : List Value} (h1 : Vals vs us) (h2 : Vals mz mv) (h3 : Vals zs ws) : Vals (gA ar vs mz zs) (gA ar us mv ws) := by
  cases h1 with
  | nil => exact .nil
  | cons r h1 => exact .cons r (picks_rel h1 h2 h3 ar)
/-- a literal as a value -/
def litV : T → V
  | .int i => .int i
  | .str x => .str x
  | .bl b => .bl b
  | _ => .non
def litB : T → Bool
  | .int _ => true
  | .str _ => true
  | .bl _ => true
  | .non => true
  | _ => false
theorem lit_fz {av : Addr → Prop} (h : litB t = true) : Fz K H av t (litV t) := by
  cases t with
  | int i => rfl
  | str x => rfl
  | bl b => rfl
  | non => rfl
  | _ => cases h
/-- the defaults in a row of arguments are these -/
def ArOk (ds : List T) : List Ar → Prop
  | [] => True
  | .d j t :: r => (ds[j]? = some t ∧ litB t = true) ∧ ArOk ds r
  | _ :: r => ArOk ds r
theorem FzL.at_ {av : Addr → Prop} : ∀ {ts : List T} {vs : List V} (i : Nat) {t : T}, FzL K H av ts vs → ts[i]? = some t → ∃ v, vs[i]? = some v ∧ Fz K H av t v
  | [], vs, i, t, h, e => by simp at e
  | u :: ts, vs, 0, t, h, e => by
    obtain ⟨v, r, rfl, h1, h2⟩ := h
    cases e
    exact ⟨v, rfl, h1⟩
  | u :: ts, vs, i + 1, t, h, e => by
    obtain ⟨v, r, rfl, h1, h2⟩ := h
    exact FzL.at_ i h2 (by simpa using e)
theorem arr_fz {av : Addr → Prop} {us : List T} {zs : List V} {ds : List T} (h1 : FzL K H av ts vs) (h2 : FzL K H av us zs) : ∀ (ar : List Ar) (rs : List T), ArOk ds ar → arr ts us ar = some rs → FzL K H av rs (ar.filterMap (pickA vs (ds.map litV) zs))
  | [], rs, _, e => by
    cases e
    exact rfl
  | .p i :: ar, rs, ok, e => by
    obtain ⟨t, et, e2⟩ := Option.bind_eq_some_iff.mp (show (ts[i]?).bind (fun t => (arr ts us ar).map (t :: ·)) = some rs from e)
    obtain ⟨q, eq, e3⟩ := Option.map_eq_some_iff.mp e2
    subst e3
    obtain ⟨v, ev, fv⟩ := h1.at_ i et
    rw [List.filterMap_cons, show pickA vs (ds.map litV) zs (.p i) = some v from ev]
    exact ⟨v, _, rfl, fv, arr_fz h1 h2 ar q ok eq⟩
  | .k i :: ar, rs, ok, e => by
    obtain ⟨t, et, e2⟩ := Option.bind_eq_some_iff.mp (show (us[i]?).bind (fun t => (arr ts us ar).map (t :: ·)) = some rs from e)
    obtain ⟨q, eq, e3⟩ := Option.map_eq_some_iff.mp e2
    subst e3
    obtain ⟨v, ev, fv⟩ := h2.at_ i et
    rw [List.filterMap_cons, show pickA vs (ds.map litV) zs (.k i) = some v from ev]
    exact ⟨v, _, rfl, fv, arr_fz h1 h2 ar q ok eq⟩
  | .d j t :: ar, rs, ok, e => by
    obtain ⟨q, eq, e3⟩ := Option.map_eq_some_iff.mp (show (arr ts us ar).map (t :: ·) = some rs from e)
    subst e3
    obtain ⟨⟨e1, e2⟩, ok⟩ := ok
    rw [List.filterMap_cons, show pickA vs (ds.map litV) zs (.d j t) = some (litV t) by
      show (ds.map litV)[j]? = _
      rw [List.getElem?_map, e1]
      rfl]
    exact ⟨_, _, rfl, lit_fz e2, arr_fz h1 h2 ar q ok eq⟩
theorem arr_len {us : List T} : ∀ (ar : List Ar) (rs : List T), arr ts us ar = some rs → rs.length = ar.length
  | [], rs, e => by cases e; rfl
  | .p i :: ar, rs, e => by
    obtain ⟨t, et, e2⟩ := Option.bind_eq_some_iff.mp (show (ts[i]?).bind (fun t => (arr ts us ar).map (t :: ·)) = some rs from e)
    obtain ⟨q, eq, e3⟩ := Option.map_eq_some_iff.mp e2
    subst e3
    rw [List.length_cons, List.length_cons, arr_len ar q eq]
  | .k i :: ar, rs, e => by
    obtain ⟨t, et, e2⟩ := Option.bind_eq_some_iff.mp (show (us[i]?).bind (fun t => (arr ts us ar).map (t :: ·)) = some rs from e)
    obtain ⟨q, eq, e3⟩ := Option.map_eq_some_iff.mp e2
    subst e3
    rw [List.length_cons, List.length_cons, arr_len ar q eq]
  | .d j t :: ar, rs, e => by
    obtain ⟨q, eq, e3⟩ := Option.map_eq_some_iff.mp (show (arr ts us ar).map (t :: ·) = some rs from e)
    subst e3
    rw [List.length_cons, List.length_cons, arr_len ar q eq]
end
/-! ### a class that can be made -/
/-- its __init__ keeps the promise of def f; ks: the keywords' names; np: how many positional arguments; ar: how the parameters are filled -/
structure MkC (P : Program) (w : World) (K : PySem.W.Frag) (mg : Str → Option Value) (base : Heap) (xr : XR) (C : Calls) (d : Nat) (f : Nat) (c : Str) (np : Nat) (ks : List Str) (ar : List Ar) (ds : List T) : Prop where
  ex : ∃ fa fd ps, ∃ mv : List Value, L2.Mk K (He.ga K c) fa ∧ FnOk P w K mg base (L2.CX P w) d fa fd ps (spC K xr C f [0] (ar.length + 1)) ∧ KBn K fd ps (np + 1) ks (fun us ws => gA ar us mv ws) (fun vs zs => gA ar vs (ds.map litV) zs)
  ok : ArOk ds ar
section
variable {X : Cx} {CX : CXT} {k n : Nat} {f C : Addr} {fd : FuncData} {ps ks : List Str} {sp : Sp} {E : St → XK} {g : List Value → List Value → List Value} {gV : List V → List V → List V}
theorem run_makeS {pins : List (Addr × Obj)} {σ : St} {H : Hp} {s : Shared} {Q : VK} {us ws : List Value} {vs zs : List V} (M : L2.Mk X.K C f) (F : FnOk X.prog X.w X.K X.mg X.base CX k f fd ps sp) (hr : Room (k + 1) X.A) (kb : KBn X.K fd ps (n + 1) ks g gV) (px : PassesAt CX X σ (E σ))
    (I : Inv X pins σ H s) (rv : Vals vs us) (rz : Vals zs ws) (lv : vs.length = n) (lz : zs.length = ks.length)
    (h : ∀ x dx, H x = none → H dx = none → dx ≠ x → sp (gV (.ref x :: vs) zs) (upd (upd H dx (.own x)) x (.ins C dx [])) (fun v H2 => v = .non ∧ Q (.ref x) H2) (E σ)) :
    wpAny (model X.prog X.w) X.A (call (.ref C) us (ks.zip ws)) (EP X pins σ Q) X.xe s := by
  have hn := h (s.heap.objs.size + 1) s.heap.objs.size (I.hok.fresh (Nat.le_succ _)) (I.hok.fresh (Nat.le_refl _)) (Nat.ne_of_lt (Nat.lt_succ_self _))
  have J := Inv.made (C := C) I
  have rs : Vals (V.ref (s.heap.objs.size + 1) :: vs) (Value.ref (s.heap.objs.size + 1) :: us) := .cons rfl rv
  have ls : (Value.ref (s.heap.objs.size + 1) :: us).length = n + 1 := by rw [List.length_cons, ← rv.length, lv]
  refine wpAny_call (make_map (f := f) I.kIn M.makes M.init (beq_iff_eq.mp M.fn) (codeAny_mono (F.run _ X.stack _ _ ⟨Value.ref (s.heap.objs.size + 1) :: us, ks.zip ws⟩ (g (Value.ref (s.heap.objs.size + 1) :: us) ws) _ _ (E σ) (hr.make C us (ks.zip ws))
    (J.env0.make C us (ks.zip ws)) (kb.to _ (Value.ref (s.heap.objs.size + 1) :: us) ws J.kIn ls (rz.length.symm.trans lz)) (kb.rel rs rz) hn) fun r s' z => ?_))
  cases r with
  | error e => exact px pins _ _ e s' J z
  | ok fl =>
    cases fl with
    | ret u =>
      obtain ⟨y, H', J3, ry, ey, q3⟩ := J.after z
      subst ey
      exact ⟨ry, ⟨V.ref (s.heap.objs.size + 1), H', J3, rfl, q3⟩⟩
    | next => exact False.elim z
    | brk => exact False.elim z
    | cont => exact False.elim z
end
section
variable {X : Cx} {g : Cfg} {pos p0 p1 apos : Pos} {a b e o : Expr} {ia ib : E} {x m c : Str} {es : List Expr} {is js : Es} {k f n : Nat} {kws : List Keyword} {ar : List Ar} {ds : List T} {ksn : List Str}
/-- keywords as a row -/
theorem snk_nil : PK X [] (tEs X.K g .nil) := ⟨fun _ _ _ σ H Q I ⟨Rt, env, A, rl, p⟩ => wpAny_evalAll_nil ⟨[], H, I, .nil, p [] H A [] rl.sx ⟨rfl, rfl⟩⟩⟩
theorem PK.imp {t t' : TA} (h : PK X kws t) (i : ∀ σ H Q, t' σ H Q → t σ H Q) : PK X kws t' := ⟨fun pos pins s σ H Q I q => h.run pos pins s σ H Q I (i σ H Q q)⟩
theorem snk_cons {nm : Option Str} {kpos : Pos} (he : PE X e (tE X.K g ia)) (hs : PK X kws (tEs X.K g is)) : PK X (⟨nm, e, kpos⟩ :: kws) (tEs X.K g (.cons ia is)) :=
  PK.imp (pk_cons he hs) fun σ H Q ⟨Rt, env, A, rl, p⟩ => ⟨Rt, env, A, rl, Post.seq p fun w e1 v H1 A1 B1 s1 o1 p1 => ⟨RtB B1 Rt, e1, A1, s1.rl, Post.seq2 s1 p1 fun ws e2 vs H2 A2 B2 s2 o2 p2 =>
    p2 (v :: vs) H2 A2 (B1 ++ B2) (s1.next s2) ⟨v, vs, B1, B2, rfl, rfl, s1.own s2 o1, Sx.ownL2 o2⟩⟩⟩
/-- how many there are -/
def esLen : Es → Nat
  | .nil => 0
  | .cons _ r => esLen r + 1
theorem evEs_len {G : Nat → Option T} {C : Calls} : ∀ (es : Es) (env env1 : Env) (ws : List W), evEs G C es env = .ok ws env1 → ws.length = esLen es
  | .nil, env, env1, ws, h => by
    cases (show R.ok ([] : List W) env = .ok ws env1 from h)
    rfl
  | .cons e es, env, env1, ws, h => by
    have h' : ((evE G C e env).bind fun w env1 => (evEs G C es env1).bind fun ws env2 => R.ok (w :: ws) env2) = .ok ws env1 := h
    cases e1 : evE G C e env with
    | no => rw [e1] at h'; cases h'
    | exc c t e2 => rw [e1] at h'; cases h'
    | ok w env2 =>
      rw [e1] at h'
      have h2 : ((evEs G C es env2).bind fun ws env2 => R.ok (w :: ws) env2) = .ok ws env1 := h'
      cases e2 : evEs G C es env2 with
      | no => rw [e2] at h2; cases h2
      | exc c t e3 => rw [e2] at h2; cases h2
      | ok us env3 =>
        rw [e2] at h2
        cases (show R.ok (w :: us) env3 = .ok ws env1 from h2)
        have := evEs_len es env2 _ us e2
        rw [List.length_cons, this]
        rfl
section
variable {K : PySem.W.Frag} {α β γ δ : Type} {Pa : α → β → Hp → (Addr → Prop) → List Addr → Prop} {Pc : γ → δ → Hp → (Addr → Prop) → List Addr → Prop} {Rt : Addr → Prop} {σ : St} {H H1 : Hp} {A A1 B1 : List Addr} {env1 : Env} {r : R α} {fn : α → Env → R γ} {Q : δ → Hp → Prop} {Q1 : β → Hp → Prop}
theorem Post.seq2E (s1 : Sx K Rt σ H A H1 env1 A1 B1) (h : Post K g Pc Rt σ H A (r.bind fn) Q)
    (k : ∀ a e2, r = .ok a e2 → ∀ b H2 A2 B2, Sx K (RtB B1 Rt) σ H1 A1 H2 e2 A2 B2 → Pa a b H2 (Av (A2 ++ B2) (RtB B1 Rt)) B2 → Post K g Pc Rt σ H A (fn a e2) Q → Q1 b H2) : Post K g Pa (RtB B1 Rt) σ H1 A1 r Q1 := by
  cases r with
  | ok a e1 => exact fun b H' A' B' sx p => k a e1 rfl b H' A' B' sx p h
  | exc c t e1 =>
    refine fun cls d H' A' sx p => h cls d H' A' (s1.next sx).drop0 (g.xm c t H' _ _ cls d (fun b z => ?_) p)
    rcases z with z | z
    · exact .inl z
    · exact .inr (.inr z)
  | no => exact h
end
/-- C(e, .., k = v, ..) -/
theorem snd_new (M : MkC X.prog X.w X.K X.mg X.base g.xr g.C k f c (es.length + 1) ksn ar ds) (hr : Room (k + 1) X.A) (tk : Takes X g.W) (hg : Gl X x) (hm : X.mg x = some (.ref (He.ga X.K c))) (ha : PA X (a :: es) (tEs X.K g is)) (hk : PK X kws (tEs X.K g js))
    (la : esLen is = es.length + 1) (lk : esLen js = ksn.length)
    (hall : (backToKw pos (keywordEach kws X.env)).all (·.1.isSome) = true) (hks : (backToKw pos (keywordEach kws X.env)).filterMap (·.1) = ksn) (hdb : (x == ("__debug__" : Str)) = false)
    (he : starEach (a :: es) X.env = (false, eval a X.env) :: starEach es X.env) (hpl : ((backTo pos (starEach (a :: es) X.env)).any (·.1) || (backToKw pos (keywordEach kws X.env)).any (·.1.isNone)) = false) :
    PE X (.Call (.Name x p0) (a :: es) kws pos) (tE X.K g (.new c f is js ar)) := by
  obtain ⟨⟨fa, fd, ps, mv, M, F, kb⟩, ok⟩ := M
  refine ⟨fun pins s σ H Q I ⟨Rt, env, A, rl, p⟩ => ?_⟩
  refine wpAny_Call_Name_kw (ld_glob I hg hm ?_ hdb)
  refine PySem.W.callWith_KW (h₀ := X.base) I.ok.mod.kin M.kp hall (thn (ha.run pos pins s σ H (fun vs H1 => tEs X.K g js σ H1 fun zs H2 => vs.length = es.length + 1 ∧ zs.length = ksn.length ∧ ∀ x dx, H2 x = none → H2 dx = none → dx ≠ x →
    spC X.K g.xr g.C f [0] (ar.length + 1) (gA ar (.ref x :: vs) (ds.map litV) zs) (upd (upd H2 dx (.own x)) x (.ins (He.ga X.K c) dx [])) (fun v H3 => v = .non ∧ Q (.ref x) H3) (WE g.W σ)) I ?_) fun us s1 ⟨vs, H1, I1, r, q⟩ => ?_) hpl he
  · refine ⟨Rt, env, A, rl, Post.seqE p fun ws e1 vs H1 A1 B1 q1 s1 o1 p1 => ⟨RtB B1 Rt, e1, A1, s1.rl, Post.seq2E s1 p1 fun us e2 q2 zs H2 A2 B2 s2 o2 p2 => ?_⟩⟩
    obtain ⟨s3, f1, f2⟩ := s1.fzL2 o1 s2 o2
    refine ⟨by rw [← OwnL.len _ _ _ o1, evEs_len _ _ _ _ q1]; exact la, by rw [← OwnL.len _ _ _ o2, evEs_len _ _ _ _ q2]; exact lk, fun y dy hy hdy hne => ?_⟩
    cases e3 : arr (fzs ws) (fzs us) ar with
    | none => rw [e3] at p2; exact p2.elim
    | some ts =>
      rw [e3] at p2
      have fz := arr_fz f1 f2 ar ts ok e3
      exact new_ev (ts := ts) (vs := ar.filterMap (pickA vs (ds.map litV) zs)) s3 fz hy hdy hne (by rw [← fz.len, arr_len ar ts e3]) p2
  · refine thn (hk.run pos pins s1 σ H1 _ I1 q) fun ws s2 ⟨zs, H2, I2, rz, l1, l2, q2⟩ => ⟨I2.kIn, ?_⟩
    rw [hks]
    exact run_makeS M F hr kb (passAt tk σ) I2 r rz l1 l2 q2
/-! ### isinstance with own classes -/
/-- what isinstance asks of own classes -/
structure IsC (K : PySem.W.Frag) (c : Str) : Prop where
  cl : Cls K (He.ga K c)
  ha : PySem.W.findIn K (.ref (He.ga K c)) "__class__" = some (some (.builtin "object.__class__"))
  hn : PySem.W.specialIn K (.builtin "object.__class__") "__get__" = some (some (.builtin "getset_descriptor.__get__"))
  htk : PySem.W.takesIn K (.builtin "object.__class__") = some true
  hm : PySem.W.mroIn K (He.ga K c) (.type "object") = some true
/-- c is asked for; cs are the classes whose instances may come -/
structure IsO (K : PySem.W.Frag) (c : Str) (cs : List Str) : Prop where
  ty : ∀ y : Ty, PySem.W.kitOne K (.type y.nm) (.ref (He.ga K c)) = some false
  own : ∀ c' ∈ cs, IsC K c' ∧ PySem.W.kitOne K (.ref (He.ga K c')) (.ref (He.ga K c)) = some (decide (c' = c))
theorem tyX_own {K : PySem.W.Frag} {H : Hp} {av : Addr → Prop} {cs : List Str} {t : T} {v : V} {k : Bool} (O : IsO K c cs) (h : iscT c cs t = some k) (hf : Fz K H av t v) : ∃ u, TyX K H v u ∧ PySem.W.kitOne K u (.ref (He.ga K c)) = some k ∧ (k = true → u = .ref (He.ga K c)) := by
  cases e : tyT t with
  | some y =>
    have : k = false := by
      cases t with
      | nd n ts =>
        cases n with
        | ins c' fs => cases e
        | dct ks => cases h; rfl
        | dcl ks => cases h; rfl
      | scr => cases e
      | set => cases e
      | ty => cases e
      | gl => cases e
      | _ => cases h; rfl
    subst this
    exact ⟨.type y.nm, tyX_of hf e, O.ty y, fun z => by cases z⟩
  | none =>
    cases t with
    | nd n ts =>
      cases n with
      | ins c' fs =>
        obtain ⟨a, xs, o, rfl, ha, _, ⟨dx, kvs, rfl, _, _⟩, _⟩ := hf
        have h' : (if cs.contains c' then some (decide (c' = c)) else none) = some k := h
        by_cases hc : cs.contains c' = true
        · rw [if_pos hc] at h'
          obtain ⟨z, kz⟩ := O.own c' (List.contains_iff_mem.mp hc)
          exact ⟨_, .base (.ins ha z.cl z.ha z.hn z.htk z.hm), by rw [kz]; exact h', fun z => by rw [z] at h'; rw [of_decide_eq_true (Option.some.inj h')]⟩
        · rw [if_neg hc] at h'; cases h'
      | dct ks => cases e
      | dcl ks => cases e
    | scr => cases h
    | set => cases h
    | ty => cases h
    | gl => cases h
    | _ => cases e
theorem snd_isc {px : Pos} {cs : List Str} (O : IsO X.K c cs) (hg : Gl X "isinstance") (hm : X.mg "isinstance" = none) (hgx : Gl X x) (hmx : X.mg x = some (.ref (He.ga X.K c))) (hdx : (x == ("__debug__" : Str)) = false)
    (ha : PE X a (tE X.K g ia)) (hs : starEach [a, .Name x px] X.env = (false, eval a X.env) :: starEach [.Name x px] X.env) : PE X (.Call (.Name "isinstance" p0) [a, .Name x px] [] pos) (tE X.K g (.isc c cs ia)) :=
  PE.imp (pe_callB (t := tCons (tE X.K g ia) (tCons (tC (.ref (He.ga X.K c))) tNil)) call_isi hg hm rfl (pa_cons ha (pa_cons (pe_glob hgx hmx rfl hdx) pa_nil rfl) hs) (by decide) (by decide) hs rfl) fun σ H Q ⟨Rt, env, A, rl, p⟩ => by
    refine ⟨Rt, env, A, rl, Post.seq p fun w e1 v H1 A1 B1 s1 o1 p1 => ?_⟩
    obtain ⟨w', ew, p2⟩ := Post.of p1
    obtain ⟨k, ek, e2⟩ := Option.map_eq_some_iff.mp ew
    subst e2
    obtain ⟨u, tx, kx, _⟩ := tyX_own O ek (s1.fz0 o1)
    exact ⟨v, .ref (He.ga X.K c), u, .ref (He.ga X.K c), k, rfl, .own _, tx, kx, p2 (.bl k) H1 A1 [] s1.drop0 ⟨rfl, rfl⟩⟩
end
end Ev
/-! Ev21: own operators. -/
namespace Ev
open PySem L2
section
open PySem.W PySem.Calls
variable {prog : Program} {w : World} {A : Around} {E : Value → Shared → Prop} {s : Shared} {K : Frag} {x C f : Addr} {ox : Obj} {od : Option Obj} {b : Value}
theorem ifBound_B {name : Str} {id : String} {args : List Value} {Q : Option Value → Shared → Prop} (X : K.In s.heap) (I : InstAt s.heap x ox C od) (hs : findIn K (.ref C) name = some (some (.builtin id))) (hbd : ∀ self, bindSpecial (.builtin id) self = pure (.builtin id, [self]))
    (h : wpAny (model prog w) A (call (.builtin id) (.ref x :: args)) (fun v => Q (some v)) E s) : wpAny (model prog w) A (callSpecialIfBound? (.ref x) name args) Q E s := by
  simp only [callSpecialIfBound?, bindSpecialIfBound?]
  refine wpAny_holding (wpAny_bind (wpAny_bind (wpAny_bind (I.type.here ((looks_findIn X hs).here ?_)))))
  simp only [hbd]
  refine wpAny_bind (wpAny_askSetting (wpAny_ite ?_))
  have z : wpAny (model prog w) A (call (.builtin id) ([.ref x] ++ args) >>= fun v => pure (some v)) Q E s := wpAny_bind (wpAny_mono h (fun v s' y => wpAny_pure y) fun _ _ y => y)
  split
  · exact wpAny_bind (wpAny_pure (wpAny_pure z))
  · exact wpAny_tryCatch (wpAny_bind (wpAny_pure (wpAny_pure z)))
/-- the own part of object.__ne__ -/
theorem objNe_K {y : Value} (X : K.In s.heap) (I : InstAt s.heap x ox C od) (hs : findIn K (.ref C) "__eq__" = some (some (.ref f))) (hf : isFn K (.ref f) = true) (hu : A.units < cLine) {Q : Fin → Shared → Prop}
    (h : wpAny (model prog w) A (call (.ref f) [.ref x, y]) (fun v s' => ∃ c, v = .bool c ∧ Q (.done (.ret (.bool (!c)))) s') E s) : wpAny (model prog w) A (Builtin.«object.__ne__» ⟨[.ref x, y], []⟩) Q E s := by
  unfold Builtin.«object.__ne__»
  repeat (first
    | with_reducible refine wpAny_cRoomFor hu ?_
    | (refine wpAny_bind (m := callSpecialIfBound? (.ref x) (Str.ofString "__eq__") [y]) (ifBound_K X I hs hf (wpAny_mono h (fun r s' hr => by
          obtain ⟨c, rfl, hq⟩ := hr
          repeat (first | exact hq | exact wpAny_pure hq | exact wpAny_truthy_bool hq | (refine wpAny_bind (m := truthy (.bool _)) (wpAny_truthy_bool ?_)) | wp_step)) fun _ _ e => e)))
    | wp_step)
theorem slot_K {id owner n : String} {rest : List Value} {Q : Unit → Shared → Prop} (X : K.In s.heap) (I : InstAt s.heap x ox C od) (hk : builtinKind id = some .slot) (hp : splitId id = some (owner, n)) (ha : argsOk id ⟨.ref x :: rest, []⟩) (ho : subIn K (.ref C) (.type owner) = some true) (hq : Q () s) :
    wpAny (model prog w) A (checkBuiltinCall id ⟨.ref x :: rest, []⟩) Q E s := by
  simp only [checkBuiltinCall, hk, hp]
  have hi : Looks (model prog w) s.heap (isInstance (.ref x) (.type owner)) true := I.type.andThen (looks_subIn X ho)
  refine wpAny_bind (hi.here ?_)
  simp only [Bool.not_true, Bool.false_eq_true, if_false]
  cases hsig : Manifest.signature? id with
  | none => exact wpAny_pure hq
  | some sig =>
    simp only [argsOk, hsig] at ha
    have h2 : Bind.checkArgs id sig ⟨.ref x :: rest, []⟩ = pure () := ha
    show wpAny _ A (Bind.checkArgs id sig ⟨.ref x :: rest, []⟩) Q E _
    rw [h2]
    exact wpAny_pure hq
theorem ne_own {y : Addr} {Q : Value → Shared → Prop} (X : K.In s.heap) (I : InstAt s.heap x ox C od) (hb : Looks (model prog w) s.heap (typeOf (.ref y)) (.ref C)) (hn : findIn K (.ref C) "__ne__" = some (some (.builtin "object.__ne__"))) (hs : findIn K (.ref C) "__eq__" = some (some (.ref f))) (hf : isFn K (.ref f) = true)
    (ho : subIn K (.ref C) (.type "object") = some true) (hu : A.units + 1 < cLine)
    (h : wpAny (model prog w) A.in1 (call (.ref f) [.ref x, .ref y]) (fun v s' => ∃ c, v = .bool c ∧ Q (.bool (!c)) s') E s) : wpAny (model prog w) A (compareOp .NotEq (.ref x) (.ref y)) Q E s := by
  have FB := PySem.F.cmp_object
  have one : wpAny (model prog w) A (tryCompare (.ref x) "__ne__" (.ref y)) (fun r s' => ∃ c, r = some (.bool c) ∧ Q (.bool c) s') E s := by
    unfold tryCompare
    refine wpAny_bind (ifBound_B X I hn FB.ne.bind (wpAny_call (codeAny_call_builtin FB.ne.plain PySem.F.cmpEntry_ne (slot_K X I PySem.F.cmpKind_ne PySem.F.cmpSplit_ne (PySem.F.cmpArgs_ne _ _) ho (objNe_K X I hs hf hu (wpAny_mono h (fun v s' hv => ?_) fun _ _ e => e))))))
    obtain ⟨c, rfl, hq⟩ := hv
    first | exact ⟨c, rfl, wpAny_pure ⟨_, rfl, hq⟩⟩ | exact ⟨c, rfl, wpAny_pure (wpAny_pure ⟨_, rfl, hq⟩)⟩ | exact ⟨c, rfl, ⟨_, rfl, hq⟩⟩
  unfold compareOp richCompare
  simp only [oneThing_ref]
  refine wpAny_holding (wpAny_bind (wpAny_cRoomFor (Nat.lt_of_succ_lt hu) ?_))
  rw [cmpInfo_NotEq]
  dsimp only
  refine wpAny_bind (I.type.here (wpAny_bind (hb.here ?_)))
  rw [show (Value.ref C != Value.ref C) = false from by simp]
  simp only [Bool.false_eq_true, if_false]
  refine wpAny_bind (wpAny_pure ?_)
  simp only [Bool.false_eq_true, if_false]
  refine wpAny_bind (wpAny_mono one (fun v s' hv => ?_) fun _ _ e => e)
  obtain ⟨c, rfl, hq⟩ := hv
  first | exact wpAny_pure hq | exact wpAny_pure (wpAny_pure hq) | exact hq
end
/-! ### runs -/
section
variable {X : Cx} {g : Cfg} {k f n : Nat} {fa : Addr} {pins : List (Addr × Obj)} {σ : St} {H : Hp} {s : Shared} {Q : VK} {us : List Value} {vs : List V} {A' : Around} {io : List Nat}
/-- a def at an address runs, here or one deeper -/
theorem run_at (F : FnA X.prog X.w X.K X.mg X.base g.xr g.C k f fa io n) (hr : Room k A') (e0 : Env0 X.prog X.w X.K X.mg X.base A' X.stack s H) (tk : Takes X g.W) (I : Inv X pins σ H s) (rv : Vals vs us) (h : spC X.K g.xr g.C f io n vs H Q (WE g.W σ)) :
    wpAny (model X.prog X.w) A' (call (.ref fa) us) (EP X pins σ Q) X.xe s := by
  obtain ⟨fd, ps, F, hk, hb⟩ := F.ex
  have hl : us.length = ps.length := by rw [← rv.length]; exact F.len _ _ _ _ h
  have b := hb s us I.kIn (by rw [List.append_nil]; exact hl)
  rw [List.append_nil] at b
  refine wpAny_call (codeAny_mono (F.run A' X.stack s H ⟨us, []⟩ us vs Q (WE g.W σ) hr e0 b rv h) fun r s' z => ?_)
  cases r with
  | error e => exact passAt tk σ pins H s e s' I z
  | ok fl =>
    cases fl with
    | ret u => exact I.after z
    | next => exact False.elim z
    | brk => exact False.elim z
    | cont => exact False.elim z
end
/-! ### the rules -/
section
variable {X : Cx} {g : Cfg} {pos p0 p1 apos : Pos} {a b e o : Expr} {ia ib : E} {x m c : Str} {es : List Expr} {as : As} {k f n : Nat} {fa C q : Addr} {io : List Nat}
theorem ins_at {pins : List (Addr × Obj)} {σ : St} {H : Hp} {s : Shared} {ad C dx : Addr} {kvs : List (Str × V)} (I : Inv X pins σ H s) (ea : H ad = some (.ins C dx kvs)) : ∃ ox od, PySem.W.InstAt s.heap ad ox C od := by
  obtain ⟨mA, O, _⟩ := ins_get I.hok ea
  obtain ⟨od, J, _⟩ := O.look
  exact ⟨_, _, J⟩
/-- x[i] by an own __getitem__ -/
theorem snd_ownS (he : PE X a (tE X.K g ia)) (hb : PE X b (tE X.K g ib)) (hs : PySem.W.findIn X.K (.ref (He.ga X.K c)) "__getitem__" = some (some (.ref fa))) (hf : PySem.W.fnIn X.K fa = true) (hfn : PySem.W.isFn X.K (.ref fa) = true) (F : FnA X.prog X.w X.K X.mg X.base g.xr g.C k f fa [] 2) (hr : Room (k + 1) X.A) (tk : Takes X g.W)
    (hsl : ∀ v u, subscripted b true v u = runValue (.builtin "lifetime.subscript" ⟨[v, u], []⟩)) : PE X (.Subscript a b pos) (tE X.K g (.own c f ia ib)) := by
  refine ⟨fun pins s σ H Q I ⟨Rt, env, A, rl, p⟩ => ?_⟩
  refine PyProof.Rows.Subscript_ (binT he hb I (R := fun x y H2 => ∃ ad dx kvs, x = .ref ad ∧ H2 ad = some (.ins (He.ga X.K c) dx kvs) ∧ spC X.K g.xr g.C f [] 2 [x, y] H2 Q (WE g.W σ)) ⟨Rt, env, A, rl, Post.seq p fun w e1 v H1 A1 B1 s1 o1 p1 => ⟨RtB B1 Rt, e1, A1, s1.rl, Post.seq2 s1 p1 fun w2 e2 v2 H2 A2 B2 s2 o2 p2 => ?_⟩⟩ fun v u s2 x y H2 I2 rx ry q => ?_)
  · by_cases hi : isOf c w.fz = true
    case neg => rw [if_neg hi] at p2; exact p2.elim
    rw [if_pos hi] at p2
    obtain ⟨s3, f1, f2⟩ := s1.fz2 o1 s2 o2
    obtain ⟨ad, dx, kvs, rfl, ea⟩ := isOf_fz hi f1
    exact ⟨ad, dx, kvs, rfl, ea, call_fz (ts := [w.fz, w2.fz]) s3 ⟨_, _, rfl, f1, _, _, rfl, f2, rfl⟩ rfl p2⟩
  · obtain ⟨ad, dx, kvs, rfl, ea, q⟩ := q
    cases (show v = Value.ref ad from rx)
    obtain ⟨ox, od, J⟩ := ins_at I2 ea
    obtain ⟨m, hF⟩ := I2.fr
    exact PySem.W.sub_K hF I2.ok.mod.kin J hs hf hfn (run_at (vs := [V.ref ad, y]) (us := [.ref ad, u]) F hr.in1 I2.env0.in1 tk I2 (.cons rfl (.cons ry .nil)) q) (hsl _ _)
/-- x - y by an own operator, both of the class -/
theorem snd_ownB {op : Operator} (he : PE X a (tE X.K g ia)) (hb : PE X b (tE X.K g ib)) (hc : PySem.W.selfFirst X.K (He.ga X.K c) = true) (hs : PySem.W.findIn X.K (.ref (He.ga X.K c)) (PySem.dunder op.info.2) = some (some (.ref fa))) (hfn : PySem.W.isFn X.K (.ref fa) = true) (F : FnA X.prog X.w X.K X.mg X.base g.xr g.C k f fa [] 2)
    (hr : Room k X.A) (tk : Takes X g.W) : PE X (.BinOp a op b pos) (tE X.K g (.ownB c f ia ib)) := by
  refine ⟨fun pins s σ H Q I ⟨Rt, env, A, rl, p⟩ => ?_⟩
  refine wpAny_BinOp (binT he hb I (R := fun x y H2 => ∃ ad dx kvs ad' dx' kvs', x = .ref ad ∧ y = .ref ad' ∧ H2 ad = some (.ins (He.ga X.K c) dx kvs) ∧ H2 ad' = some (.ins (He.ga X.K c) dx' kvs') ∧ spC X.K g.xr g.C f [] 2 [x, y] H2 Q (WE g.W σ)) ⟨Rt, env, A, rl, Post.seq p fun w e1 v H1 A1 B1 s1 o1 p1 => ⟨RtB B1 Rt, e1, A1, s1.rl, Post.seq2 s1 p1 fun w2 e2 v2 H2 A2 B2 s2 o2 p2 => ?_⟩⟩ fun v u s2 x y H2 I2 rx ry q => ?_)
  · by_cases hi : (isOf c w.fz && isOf c w2.fz) = true
    case neg => rw [if_neg hi] at p2; exact p2.elim
    rw [if_pos hi] at p2
    rw [Bool.and_eq_true] at hi
    obtain ⟨s3, f1, f2⟩ := s1.fz2 o1 s2 o2
    obtain ⟨ad, dx, kvs, rfl, ea⟩ := isOf_fz hi.1 f1
    obtain ⟨ad', dx', kvs', rfl, ea'⟩ := isOf_fz hi.2 f2
    exact ⟨ad, dx, kvs, ad', dx', kvs', rfl, rfl, ea, ea', call_fz (ts := [w.fz, w2.fz]) s3 ⟨_, _, rfl, f1, _, _, rfl, f2, rfl⟩ rfl p2⟩
  · obtain ⟨ad, dx, kvs, ad', dx', kvs', rfl, rfl, ea, ea', q⟩ := q
    cases (show v = Value.ref ad from rx)
    cases (show u = Value.ref ad' from ry)
    obtain ⟨ox, od, J⟩ := ins_at I2 ea
    obtain ⟨ox', od', J'⟩ := ins_at I2 ea'
    obtain ⟨m, hF⟩ := I2.fr
    refine PySem.W.binop_K hF I2.ok.mod.kin J J'.type hc hs hfn (wpAny_mono (run_at (vs := [V.ref ad, V.ref ad']) F hr I2.env0 tk I2 (.cons rfl (.cons rfl .nil)) q) (fun z s' y => ?_) fun _ _ y => y)
    obtain ⟨z', H', I', rz, qz⟩ := y
    exact SlX.cmpback rz ⟨z', H', I', rz, qz⟩
theorem sub_of_kit {K : PySem.W.Frag} {t : Value} {C : Addr} (h : PySem.W.kitOne K t (.ref C) = some false) : PySem.W.subIn K t (.ref C) = some false := by
  unfold PySem.W.kitOne at h
  split at h
  · cases h
  · unfold PySem.W.kitCls at h
    dsimp only at h
    split at h
    · exact h
    · cases h
/-- x == y by an own __eq__ -/
theorem snd_ownE {cs : List Str} (O : IsO X.K c cs) (he : PE X a (tE X.K g ia)) (hb : PE X b (tE X.K g ib)) (hs : PySem.W.findIn X.K (.ref (He.ga X.K c)) "__eq__" = some (some (.ref fa))) (hfn : PySem.W.isFn X.K (.ref fa) = true)
    (F : FnA X.prog X.w X.K X.mg X.base g.xr g.C k f fa [] 2) (hr : Room k X.A) (tk : Takes X g.W) (hm : behindInMarks .Eq b = false) : PE X (.Compare a [.Eq] [b] pos) (tE X.K g (.ownE c cs f ia ib)) := by
  refine ⟨fun pins s σ H Q I ⟨Rt, env, A, rl, p⟩ => ?_⟩
  refine wpAny_Compare1 (binT he hb I (R := fun x y H2 => ∃ ad dx kvs t, x = .ref ad ∧ H2 ad = some (.ins (He.ga X.K c) dx kvs) ∧ TyX X.K H2 y t ∧ (t = .ref (He.ga X.K c) ∨ PySem.W.kitOne X.K t (.ref (He.ga X.K c)) = some false) ∧ spC X.K g.xr g.C f [] 2 [x, y] H2 Q (WE g.W σ)) ⟨Rt, env, A, rl, Post.seq p fun w e1 v H1 A1 B1 s1 o1 p1 => ⟨RtB B1 Rt, e1, A1, s1.rl, Post.seq2 s1 p1 fun w2 e2 v2 H2 A2 B2 s2 o2 p2 => ?_⟩⟩ fun v u s2 x y H2 I2 rx ry q => ?_) hm
  · by_cases hi : (isOf c w.fz && (iscT c cs w2.fz).isSome) = true
    case neg => rw [if_neg hi] at p2; exact p2.elim
    rw [if_pos hi] at p2
    rw [Bool.and_eq_true] at hi
    obtain ⟨s3, f1, f2⟩ := s1.fz2 o1 s2 o2
    obtain ⟨ad, dx, kvs, rfl, ea⟩ := isOf_fz hi.1 f1
    obtain ⟨kk, ek⟩ := Option.isSome_iff_exists.mp hi.2
    obtain ⟨t, tx, kx, kt⟩ := tyX_own O ek f2
    refine ⟨ad, dx, kvs, t, rfl, ea, tx, ?_, call_fz (ts := [w.fz, w2.fz]) s3 ⟨_, _, rfl, f1, _, _, rfl, f2, rfl⟩ rfl p2⟩
    cases kk with
    | false => exact .inr kx
    | true => exact .inl (kt rfl)
  · obtain ⟨ad, dx, kvs, t, rfl, ea, tx, ht, q⟩ := q
    cases (show v = Value.ref ad from rx)
    obtain ⟨ox, od, J⟩ := ins_at I2 ea
    obtain ⟨P, Z, pz, _⟩ := kit_of I2 ry tx
    obtain ⟨m, hF⟩ := I2.fr
    unfold compareOp
    refine PySem.W.cmp_K (op := .Eq) (tb := t) hr.units0 hF I2.ok.mod.kin J (Z.ty _ _ I2.kIn pz) ?_ hs hfn (wpAny_mono (run_at (vs := [V.ref ad, y]) F hr I2.env0 tk I2 (.cons rfl (.cons ry .nil)) q) (fun z s' y => ?_) fun _ _ y => y)
    · unfold PySem.W.notFirst
      rcases ht with e | e
      · rw [e, beq_self_eq_true, Bool.true_or]
      · rw [sub_of_kit e, beq_self_eq_true, Bool.or_true]
    · obtain ⟨z', H', I', rz, qz⟩ := y
      exact SlX.cmpback rz ⟨z', H', I', rz, qz⟩
/-- x != y by an own __eq__, both of the class -/
theorem snd_ownN (he : PE X a (tE X.K g ia)) (hb : PE X b (tE X.K g ib)) (hn : PySem.W.findIn X.K (.ref (He.ga X.K c)) "__ne__" = some (some (.builtin "object.__ne__"))) (hs : PySem.W.findIn X.K (.ref (He.ga X.K c)) "__eq__" = some (some (.ref fa))) (hfn : PySem.W.isFn X.K (.ref fa) = true)
    (ho : PySem.W.subIn X.K (.ref (He.ga X.K c)) (.type "object") = some true) (F : FnA X.prog X.w X.K X.mg X.base g.xr g.C k f fa [] 2) (hr : Room (k + 1) X.A) (hu : X.A.units + 64 < cLine) (tk : Takes X g.W) (hm : behindInMarks .NotEq b = false) : PE X (.Compare a [.NotEq] [b] pos) (tE X.K g (.ownN c f ia ib)) := by
  refine ⟨fun pins s σ H Q I ⟨Rt, env, A, rl, p⟩ => ?_⟩
  refine wpAny_Compare1 (binT he hb I (R := fun x y H2 => ∃ ad dx kvs ad' dx' kvs', x = .ref ad ∧ y = .ref ad' ∧ H2 ad = some (.ins (He.ga X.K c) dx kvs) ∧ H2 ad' = some (.ins (He.ga X.K c) dx' kvs') ∧ spC X.K g.xr g.C f [] 2 [x, y] H2 (fun v H3 => ∃ k, v = .bl k ∧ Q (.bl (!k)) H3) (WE g.W σ)) ⟨Rt, env, A, rl, Post.seq p fun w e1 v H1 A1 B1 s1 o1 p1 => ⟨RtB B1 Rt, e1, A1, s1.rl, Post.seq2 s1 p1 fun w2 e2 v2 H2 A2 B2 s2 o2 p2 => ?_⟩⟩ fun v u s2 x y H2 I2 rx ry q => ?_) hm
  · by_cases hi : (isOf c w.fz && isOf c w2.fz) = true
    case neg => rw [if_neg hi] at p2; exact p2.elim
    rw [if_pos hi] at p2
    rw [Bool.and_eq_true] at hi
    obtain ⟨s3, f1, f2⟩ := s1.fz2 o1 s2 o2
    obtain ⟨ad, dx, kvs, rfl, ea⟩ := isOf_fz hi.1 f1
    obtain ⟨ad', dx', kvs', rfl, ea'⟩ := isOf_fz hi.2 f2
    refine ⟨ad, dx, kvs, ad', dx', kvs', rfl, rfl, ea, ea', call_fz (ts := [w.fz, w2.fz]) s3 ⟨_, _, rfl, f1, _, _, rfl, f2, rfl⟩ rfl (Post.seq p2 fun w3 e3 v3 H3 A3 B3 s4 o3 p3 => ?_)⟩
    cases e5 : w3.fz with
    | bl kk =>
      rw [e5] at p3
      have f3 := s4.fz0 o3
      rw [e5] at f3
      exact ⟨kk, f3, p3 (.bl (!kk)) H3 A3 [] s4.drop0 ⟨rfl, rfl⟩⟩
    | _ => rw [e5] at p3; exact p3.elim
  · obtain ⟨ad, dx, kvs, ad', dx', kvs', rfl, rfl, ea, ea', q⟩ := q
    cases (show v = Value.ref ad from rx)
    cases (show u = Value.ref ad' from ry)
    obtain ⟨ox, od, J⟩ := ins_at I2 ea
    obtain ⟨ox', od', J'⟩ := ins_at I2 ea'
    refine ne_own I2.kIn J J'.type hn hs hfn ho (by omega) (wpAny_mono (run_at (vs := [V.ref ad, V.ref ad']) F hr.in1 I2.env0.in1 tk I2 (.cons rfl (.cons rfl .nil)) q) (fun z s' y => ?_) fun _ _ y => y)
    obtain ⟨z', H', I', rz, kk, ek, qz⟩ := y
    subst ek
    cases (show z = Value.bool kk from rz)
    exact ⟨kk, rfl, .bl (!kk), H', I', rfl, qz⟩
end
end Ev
/-! Ev22: a class made of a row; dicts compared. -/
namespace Ev
open PySem L2
/-- what a def f(a, .., *v) promises -/
def spSt (n : Nat) (sp : Sp) : Sp := fun vs H Q E => ∃ ws rest, vs = ws ++ rest ∧ ws.length = n ∧ rest.length ≤ sizeLine ∧ ∀ p, H p = none → sp (ws ++ [V.ref p]) (upd H p (.tup rest)) Q E
/-- a class whose __init__ takes a row -/
structure MkS (P : Program) (w : World) (K : PySem.W.Frag) (mg : Str → Option Value) (base : Heap) (xr : XR) (C : Calls) (d : Nat) (f : Nat) (c : Str) : Prop where
  ex : ∃ fa, L2.Mk K (He.ga K c) fa ∧ FnR P w K mg base (L2.CX P w) d fa (spSt 1 (spC K xr C f [0] 2))
section
variable {P : Program} {w : World} {K : PySem.W.Frag} {mg : Str → Option Value} {base : Heap} {x qual : Str} {params : Arguments} {body : List Stmt} {scope : Scope} {dvs : List V} {kws : List (Str × V)} {f : Addr} {fd : FuncData}
theorem fn_row {G : Nat → Option T} {tab : Nat → Option FD} {xr : XR} {xm : ∀ c t H (av av' : Addr → Prop) cls d, (∀ b, av' b → av b) → xr c t H av cls d → xr c t H av' cls d} {N ps : List Str} {pv : Str} {d i k : Nat} {fd0 : FD} (F : FunD K x qual params body scope [] kws f fd) (S : FnScope N (ps ++ [pv]) scope)
    (ht : tab i = some fd0) (hnp : fd0.np = ps.length + 1) (hns : fd0.ns = N.length) (hnd : fd0.io.Nodup) (hio : ∀ j ∈ fd0.io, j < fd0.np)
    (bd : ∀ (kV doc pm : Value) (an : Option Addr) (cdv ct : Value) (us rest : List Value), us.length = ps.length → bindArgs (PySem.W.fnOf x qual params body scope .none kV doc pm an cdv ct) ⟨us ++ rest, []⟩ = (newTuple rest >>= fun t => pure (ps.zip us ++ [(pv, t)])))
    (hb : ∀ (cdv : Value) (A : Around) (outer : List PySem.Env) (s : Shared) (H : Hp) (E : XK), Room k (A.deeper (PyProof.Rows.envOfC qual scope s.heap.objs.size f cdv)) →
      PSs (cxOf (L2.CX P w) P w K mg base N qual scope f cdv A outer s H E) body (tSs K (gOf G (callN G tab d) xr xm E) fd0.io fd0.body)) :
    FnR P w K mg base (L2.CX P w) (k + 1) f (spSt ps.length (spC K xr (callN G tab (d + 1)) i fd0.io (ps.length + 1))) := by
  obtain ⟨oc, od, dV, kV, doc, pm, an, cdv, ct, osl, rfl, lk, hcd, hD, _⟩ := F.ex
  have ed : dV = .none := by
    rcases hD with ⟨_, e⟩ | ⟨e, _⟩
    · exact e
    · exact absurd rfl e
  subst ed
  exact StX.fn_star lk hcd S StX.cxUp (fun us rest hl => bd kV doc pm an cdv ct us rest hl) fun A outer s H vs Q E hr h => ⟨_, hb cdv A outer s H E hr, sp_body ht hnp hns hnd hio h⟩
theorem fn_row0 {G : Nat → Option T} {tab : Nat → Option FD} {xr : XR} {CX : CXT} {io : List Nat} {n m i k : Nat} {f : Addr} : FnR P w K mg base CX k f (spSt m (spC K xr (callN G tab 0) i io n)) := fun A outer s H us vs Q E hr e0 rv ⟨ws, rest, _, _, _, h⟩ => by
  obtain ⟨_, _, _, _, _, z⟩ := h s.heap.objs.size (e0.hok.fresh (Nat.le_refl _))
  exact z.elim
end
section
variable {X : Cx} {g : Cfg} {pos p0 p1 apos : Pos} {a b e o : Expr} {ia ib : E} {x m c : Str} {es : List Expr} {k f n : Nat} {fa C q : Addr}
theorem run_row {pins : List (Addr × Obj)} {σ : St} {H : Hp} {s : Shared} {Q : VK} {us : List Value} {vs : List V} {sp : Sp} {E : St → XK} {CX : CXT} (M : L2.Mk X.K C fa) (F : FnR X.prog X.w X.K X.mg X.base CX k fa sp) (hr : Room (k + 1) X.A) (px : PassesAt CX X σ (E σ)) (I : Inv X pins σ H s) (rv : Vals vs us)
    (h : ∀ x dx, H x = none → H dx = none → dx ≠ x → sp (V.ref x :: vs) (upd (upd H dx (.own x)) x (.ins C dx [])) (fun v H2 => v = .non ∧ Q (.ref x) H2) (E σ)) : wpAny (model X.prog X.w) X.A (call (.ref C) us) (EP X pins σ Q) X.xe s := by
  have hn := h (s.heap.objs.size + 1) s.heap.objs.size (I.hok.fresh (Nat.le_succ _)) (I.hok.fresh (Nat.le_refl _)) (Nat.ne_of_lt (Nat.lt_succ_self _))
  have J := Inv.made (C := C) I
  have rs : Vals (V.ref (s.heap.objs.size + 1) :: vs) (Value.ref (s.heap.objs.size + 1) :: us) := .cons rfl rv
  refine wpAny_call (make_map (f := fa) I.kIn M.makes M.init (beq_iff_eq.mp M.fn) (codeAny_mono (F _ X.stack _ _ (Value.ref (s.heap.objs.size + 1) :: us) _ _ (E σ) (hr.make C us []) (J.env0.make C us []) rs hn) fun r s' z => ?_))
  cases r with
  | error e => exact px pins _ _ e s' J z
  | ok fl =>
    cases fl with
    | ret u =>
      obtain ⟨y, H', J3, ry, ey, q3⟩ := J.after z
      subst ey
      exact ⟨ry, ⟨V.ref (s.heap.objs.size + 1), H', J3, rfl, q3⟩⟩
    | next => exact False.elim z
    | brk => exact False.elim z
    | cont => exact False.elim z
/-- C(*e) -/
theorem snd_newst {ps : Pos} (M : MkS X.prog X.w X.K X.mg X.base g.xr g.C k f c) (hr : Room (k + 1) X.A) (tk : Takes X g.W) (hg : Gl X x) (hm : X.mg x = some (.ref (He.ga X.K c))) (he : PE X a (tE X.K g ia)) (hd : (x == ("__debug__" : Str)) = false)
    (hst : starEach [.Starred a ps] X.env = [(true, eval a X.env)]) : PE X (.Call (.Name x p0) [.Starred a ps] [] pos) (tE X.K g (.newst c f ia)) := by
  obtain ⟨fa, M, F⟩ := M.ex
  refine ⟨fun pins s σ H Q I ⟨Rt, env, A, rl, p⟩ => ?_⟩
  refine wpAny_Call_Name_kw (ld_glob I hg hm ?_ hd)
  refine PySem.W.callWith_S (h₀ := X.base) I.ok.mod.kin M.kp (thn (he.run pins s σ H (fun y H1 => ∃ ad xs, y = V.ref ad ∧ (SqT X.K H1 ad xs ∨ SqL X.K H1 ad xs) ∧ ∀ x dx, H1 x = none → H1 dx = none → dx ≠ x →
    spSt 1 (spC X.K g.xr g.C f [0] 2) (V.ref x :: xs) (upd (upd H1 dx (.own x)) x (.ins (He.ga X.K c) dx [])) (fun v H2 => v = .non ∧ Q (.ref x) H2) (WE g.W σ)) I ⟨Rt, env, A, rl, Post.seq p fun w e1 v H1 A1 B1 s1 o1 p1 => ?_⟩) fun v s1 ⟨y, H1, I1, ry, ad, xs, ey, hxs, q⟩ => ?_) hst
  · have f1 := s1.fz0 o1
    have key : ∀ ts xs, FzL X.K H1 (Av (A1 ++ []) Rt) ts xs → ts.length ≤ 16777216 → Post X.K g (PO1 X.K) Rt σ H A (newR (g.C f [.nd (.ins c []) [], .val (.tup ts)]) e1) Q → ∀ x dx, H1 x = none → H1 dx = none → dx ≠ x →
        spSt 1 (spC X.K g.xr g.C f [0] 2) (V.ref x :: xs) (upd (upd H1 dx (.own x)) x (.ins (He.ga X.K c) dx [])) (fun v H2 => v = .non ∧ Q (.ref x) H2) (WE g.W σ) := fun ts xs fz hl p2 y dy hy hdy hne => by
      obtain ⟨s4, fz2⟩ := new_st (c := c) s1.drop0 fz hy hdy hne
      refine ⟨[.ref y], xs, rfl, rfl, by rw [sizeLine_eq, ← fz.len]; exact hl, fun q hq => ?_⟩
      have hqy : q ≠ y := fun z => by
        rw [z, upd_same] at hq
        cases hq
      have s5 := (s4.new hq (o := .tup xs)).drop (B' := [y]) (by simp) fun b hb => List.mem_cons_of_mem _ hb
      have sub : ∀ b, Av (A1 ++ [y]) Rt b → Av (A1 ++ [q, y]) Rt b := Sx.avs fun b hb => List.mem_cons_of_mem _ hb
      have fz3 := FzL.mono (av' := Av (A1 ++ [y]) Rt) (fun _ _ q _ => q) (fun _ _ q => q) (fun b z => .inl (sub b z)) ts xs (FzL.newp hq (o := .tup xs) fz2)
      refine new_ev0 (dx := dy) (ts := [.tup ts]) (vs := [.ref q]) s5 ?_ ⟨_, _, rfl, ⟨q, xs, rfl, .inl (.inl upd_same), fz3⟩, rfl⟩ rfl p2
      rw [upd_ne fun z => hqy z.symm, upd_same]
    cases e5 : w.fz with
    | tup ts =>
      rw [e5] at p1 f1
      obtain ⟨ad, xs, rfl, hs, fz⟩ := f1
      by_cases hl : ts.length ≤ 16777216
      · have p2 : Post X.K g (PO1 X.K) Rt σ H A (if decide (ts.length ≤ 16777216) then newR (g.C f [.nd (.ins c []) [], .val (.tup ts)]) e1 else .no) Q := p1
        rw [if_pos (decide_eq_true hl)] at p2
        exact ⟨ad, xs, rfl, .inl hs, key ts xs fz hl p2⟩
      · have p2 : Post X.K g (PO1 X.K) Rt σ H A (if decide (ts.length ≤ 16777216) then newR (g.C f [.nd (.ins c []) [], .val (.tup ts)]) e1 else .no) Q := p1
        rw [if_neg (by simpa using hl)] at p2
        exact p2.elim
    | lst ts =>
      rw [e5] at p1 f1
      obtain ⟨ad, xs, rfl, hs, _, fz⟩ := f1
      by_cases hl : ts.length ≤ 16777216
      · have p2 : Post X.K g (PO1 X.K) Rt σ H A (if decide (ts.length ≤ 16777216) then newR (g.C f [.nd (.ins c []) [], .val (.tup ts)]) e1 else .no) Q := p1
        rw [if_pos (decide_eq_true hl)] at p2
        exact ⟨ad, xs, rfl, .inr (.inl hs), key ts xs fz hl p2⟩
      · have p2 : Post X.K g (PO1 X.K) Rt σ H A (if decide (ts.length ≤ 16777216) then newR (g.C f [.nd (.ins c []) [], .val (.tup ts)]) e1 else .no) Q := p1
        rw [if_neg (by simpa using hl)] at p2
        exact p2.elim
    | _ => rw [e5] at p1; exact p1.elim
  · subst ey
    obtain rfl : v = Value.ref ad := ry
    exact StX.star_any I1 hxs fun us s2 I2 rv => ⟨I2.kIn, run_row M F hr (passAt tk σ) I2 rv q⟩
end
end Ev
/-! Ev23: dicts compared. -/
namespace Ev
open PySem L2
section
variable {X : Cx} {pins : List (Addr × Obj)} {σ : St} {H : Hp} {s : Shared}
theorem dk_rd {a : Addr} {kvs : List (Key × V)} (I : Inv X pins σ H s) (h : Rd H a (.dK kvs)) : (a == sysModules) = false ∧ ∃ va, KV kvs va ∧ s.heap.DictOf (mixKind X.prog X.w) a va := by
  rcases h with h | ⟨u, h⟩
  · obtain ⟨_, ya, va, ra, da⟩ := (show ObjOk X.prog X.w H s.heap a (.dK kvs) from I.hok a _ h)
    exact ⟨ya, va, ra, da⟩
  · obtain ⟨_, _, ya, va, ra, da⟩ := (show ObjOk X.prog X.w H s.heap a (.frz u (.dK kvs)) from I.hok a _ h)
    exact ⟨ya, va, ra, da⟩
theorem eqT_pd {a b : T} {r : Bool} (h : eqT a b = some r) : ∃ d e, a.pd = some d ∧ b.pd = some e ∧ SeqAt.shaped d = true ∧ SeqAt.shaped e = true ∧ PyData.eqv d e = r := by
  unfold eqT at h
  cases e1 : a.pd with
  | none => rw [e1] at h; cases h
  | some d =>
    cases e2 : b.pd with
    | none => rw [e1, e2] at h; cases h
    | some e =>
      rw [e1, e2] at h
      have h' : (if (SeqAt.shaped d && SeqAt.shaped e) = true then some (PyData.eqv d e) else none) = some r := h
      by_cases c : (SeqAt.shaped d && SeqAt.shaped e) = true
      · rw [if_pos c] at h'
        rw [Bool.and_eq_true] at c
        exact ⟨d, e, rfl, rfl, c.1, c.2, Option.some.inj h'⟩
      · rw [if_neg c] at h'; cases h'
theorem hits_fz {A : Around} {av : Addr → Prop} {kb : List (Key × V)} {vb : List (Key × Value)} {ksb : List Key} {tsb : List T} (I : Inv X pins σ H s) (hu : A.in1.units + 64 < cLine) (rb : KV kb vb) (f1 : kb.map (·.1) = ksb) (f2 : FzL X.K H av tsb (kb.map (·.2))) :
    ∀ {ka : List (Key × V)} {va : List (Key × Value)}, KV ka va → ∀ {ks : List Key} {ts : List T} {r : Bool}, ka.map (·.1) = ks → FzL X.K H av ts (ka.map (·.2)) → hitsT ksb tsb ks ts = some r → PySem.W.KeqHits A.in1 s vb va r := by
  intro ka va ra
  unfold KV at ra
  induction ra with
  | nil =>
    intro ks ts r e1 e2 h
    subst e1
    cases ts with
    | nil =>
      cases (show some true = some r from h)
      exact .nil
    | cons t ts =>
      obtain ⟨_, _, z, _⟩ := e2
      cases z
  | @cons p q ps qs hpq t ih =>
    intro ks ts r e1 e2 h
    obtain ⟨h1, h2⟩ := hpq
    obtain ⟨k, v⟩ := q
    have h1' : p.1 = k := h1
    subst e1
    cases ts with
    | nil => cases (show p.2 :: ps.map (·.2) = [] from e2)
    | cons t1 ts =>
      obtain ⟨v1, r1, z, fz1, fz2⟩ := e2
      obtain ⟨z1, z2⟩ := List.cons.inj (show p.2 :: ps.map (·.2) = v1 :: r1 from z)
      subst z1 z2
      have h' : (match getN ksb tsb p.1 with
        | none => some false
        | some u => (eqT t1 u).bind fun e => (hitsT ksb tsb (ps.map (·.1)) ts).map (e && ·)) = some r := h
      rcases DctO.get (o := .dK kb) (k := p.1) f1 rfl f2 with ⟨g1, g2, _⟩ | ⟨u, y, g1, g2, g3, _⟩
      · rw [g1] at h'
        cases (show some false = some r from h')
        have rr : RelO (valV kb p.1) (valueAt vb p.1) := rb.val p.1
        rw [g2] at rr
        have hn : valueAt vb k = none := by
          rw [← h1']
          cases e : valueAt vb p.1 with
          | none => rfl
          | some z => rw [e] at rr; cases rr
        exact .miss hn
      · rw [g1] at h'
        obtain ⟨e, ee, h3⟩ := Option.bind_eq_some_iff.mp (show (eqT t1 u).bind (fun e => (hitsT ksb tsb (ps.map (·.1)) ts).map (e && ·)) = some r from h')
        obtain ⟨r', er, h4⟩ := Option.map_eq_some_iff.mp h3
        subst h4
        have rr : RelO (some y) (valueAt vb p.1) := by rw [← g2]; exact rb.val p.1
        obtain ⟨z, hz, rz⟩ := rr.some_of
        rw [h1'] at hz
        obtain ⟨d1, d2, q1, q2, q3, q4, q5⟩ := eqT_pd ee
        obtain ⟨as, w1⟩ := Dp.reads I d1 _ _ (Fz.dp t1 _ d1 q1 fz1) h2
        obtain ⟨bs, w2⟩ := Dp.reads I d2 _ _ (Fz.dp u _ d2 q2 g3) rz
        have eq := PySem.W.keq_at (A := A) w1 w2 q3 q4 hu
        rw [q5] at eq
        exact .hit hz eq (ih rfl fz2 er)
end
section
variable {X : Cx} {g : Cfg} {pos : Pos} {a b : Expr} {ia ib : E}
theorem snd_deq {k : Nat} (hr : Room (k + 1) X.A) (he : PE X a (tE X.K g ia)) (hb : PE X b (tE X.K g ib)) (hm : behindInMarks .Eq b = false) : PE X (.Compare a [.Eq] [b] pos) (tE X.K g (.deq ia ib)) := by
  refine ⟨fun pins s σ H Q I ⟨Rt, env, A, rl, p⟩ => ?_⟩
  refine wpAny_Compare1 (binT he hb I (R := fun x y H2 => ∃ av t1 t2 r, Fz X.K H2 av t1 x ∧ Fz X.K H2 av t2 y ∧ deqT t1 t2 = some r ∧ Q (.bl r) H2) ⟨Rt, env, A, rl, Post.seq p fun w e1 v H1 A1 B1 s1 o1 p1 => ⟨RtB B1 Rt, e1, A1, s1.rl, Post.seq2 s1 p1 fun w2 e2 v2 H2 A2 B2 s2 o2 p2 => ?_⟩⟩ fun v u s2 x y H2 I2 rx ry q => ?_) hm
  · obtain ⟨w3, ew, p3⟩ := Post.of p2
    obtain ⟨r, er, e3⟩ := Option.map_eq_some_iff.mp ew
    subst e3
    obtain ⟨s3, f1, f2⟩ := s1.fz2 o1 s2 o2
    exact ⟨_, _, _, r, f1, f2, er, p3 (.bl r) H2 A2 [] s3 ⟨rfl, rfl⟩⟩
  · obtain ⟨av, t1, t2, r, f1, f2, er, q⟩ := q
    cases t1 with
    | nd n ts =>
      cases t2 with
      | nd n' ts' =>
        obtain ⟨ks, ek, h1⟩ := Option.bind_eq_some_iff.mp (show (n.keys.bind fun ks => n'.keys.bind fun ks' => if ks.length = ks'.length then hitsT ks' ts' ks ts else some false) = some r from er)
        obtain ⟨ks', ek', h2⟩ := Option.bind_eq_some_iff.mp h1
        obtain ⟨ad, xs, o, rfl, at_, _, no, hl⟩ := f1
        obtain ⟨ad', xs', o', rfl, at', _, no', hl'⟩ := f2
        obtain ⟨kvs, rfl, c1, c2, _⟩ := no.dct ek
        obtain ⟨kvs', rfl, c1', c2', _⟩ := no'.dct ek'
        cases (show v = Value.ref ad from rx)
        cases (show u = Value.ref ad' from ry)
        obtain ⟨ya, va, ra, da⟩ := dk_rd I2 at_.rd
        obtain ⟨yb, vb, rb, db⟩ := dk_rd I2 at'.rd
        subst c2 c2'
        have la : va.length = ks.length := by rw [← ra.length, ← c1, List.length_map]
        have lb : vb.length = ks'.length := by rw [← rb.length, ← c1', List.length_map]
        by_cases hc : ks.length = ks'.length
        · rw [if_pos hc] at h2
          refine PySem.W.keq_eq (knd := mixKind X.prog X.w) (r := r) ya yb da db hr.units0 (fun _ => hits_fz I2 hr.in1.units rb c1' hl' ra c1 hl h2) ?_
          rw [la, lb, hc, beq_self_eq_true, Bool.true_and]
          exact ⟨.bl r, H2, I2, rfl, q⟩
        · rw [if_neg hc] at h2
          cases h2
          refine PySem.W.keq_eq (knd := mixKind X.prog X.w) (r := true) ya yb da db hr.units0 (fun z => absurd (by rw [← la, ← lb]; exact z) hc) ?_
          have : (va.length == vb.length) = false := by
            rw [la, lb]
            exact beq_eq_false_iff_ne.mpr hc
          rw [this]
          exact ⟨.bl false, H2, I2, rfl, q⟩
      | _ => cases er
    | _ => cases er
end
end Ev
/-! Ev24: loops over the keys of dicts. -/
namespace Ev
open PySem L2
section
variable {K : PySem.W.Frag}
theorem kV_fz {H : Hp} {av : Addr → Prop} (k : Key) : Fz K H av (tKey k) (kV k) := by
  cases k with
  | inl i => exact rfl
  | inr x => exact rfl
theorem jt_keys {d : Addr} {o : Obj} {kvs : List (Key × V)} {ks : List Key} (e : kvs.map (·.1) = ks) : Jt K (Itk d o kvs) (ks.map tKey) fun H av => H d = some (.frz o (.dK kvs)) ∧ ¬ av d where
  mono := fun H H' av av' p k t h => ⟨k _ _ p.1 p.2, fun z => by
    rcases h d z with z | z
    · exact p.2 z
    · rw [z] at p; cases p.1⟩
  stop := fun H av i p hi => ⟨p.1, by
    rw [← e, List.length_map, List.length_map] at hi
    exact hi⟩
  go := fun H av i t p hi => ⟨p.1, by
    have := (List.getElem?_eq_some_iff.mp hi).1
    rw [← e, List.length_map, List.length_map] at this
    exact this⟩
  yld := fun H av i t x H' p hi y => by
    obtain ⟨e1, k, v, hk, ex⟩ := y
    subst e1 ex
    rw [← e, List.getElem?_map, List.getElem?_map, hk] at hi
    cases hi
    exact ⟨fun _ _ q => q, kV_fz k⟩
end
section
variable {X : Cx} {g : Cfg} {tg a : Expr} {ia : E} {pos : Pos} {i : Nat} {x : Str}
/-- the keys of a dict that is locked here, or was -/
def iKeysL (td : TE) : TI := fun σ H R => td σ H fun x H1 => ∃ d kvs, x = .ref d ∧ ((H1 d = some (.dK kvs) ∧ ∀ o, R (Itk d o kvs) (upd H1 d (.frz o (.dK kvs)))) ∨ ∃ o, H1 d = some (.frz o (.dK kvs)) ∧ R (Itk d o kvs) H1)
theorem pi_keysL {td : TE} (he : PE X a td) : PI X tg a (iKeysL td) := by
  refine ⟨fun pins s σ H R I h => ?_⟩
  refine thn (he.run pins s σ H _ I h) fun u s1 ⟨y, H1, I1, ry, d, kvs, ey, q⟩ => ?_
  subst ey
  obtain rfl : u = Value.ref d := ry
  have main : ∀ (H2 : Hp) (o : Obj), Inv X pins σ H2 s1 → H2 d = some (.frz o (.dK kvs)) → R (Itk d o kvs) H2 → wpAny (model X.prog X.w) X.A (pyIter (.ref d)) (PIE X pins σ tg R) X.xe s1 := fun H2 o J hd q => by
    obtain ⟨hs, hgd, hx, es, ep, vs, hdt, hsz, kv, hm⟩ := J.frzK hd
    refine iter_keys hs hgd hx hdt (pi_one (tk := s1.toks) J _ (turn_keys _ hdt) ⟨_, Heap.get?_push_size _ rfl, rfl, ?_⟩ q)
    rw [hsz] <;> rfl
  rcases q with ⟨hd, q⟩ | ⟨o, hd, q⟩
  · obtain ⟨o, J⟩ := I1.lock hd trivial
    exact main _ o J upd_same (q o)
  · exact main H1 o I1 hd q
theorem sni_keys (ha : PE X a (tE X.K g ia)) : PI X tg a (tI X.K g (.keys ia)) :=
  PI.imp (pi_keysL ha) fun σ H Rr ⟨Rt, env, A, rl, p⟩ => by
    refine ⟨Rt, env, A, rl, Post.seq p fun w e1 v H1 A1 B1 s1 o1 p1 => ?_⟩
    cases w with
    | nd n ws =>
      cases n with
      | dct ks =>
        obtain ⟨d, xs, o, B, rfl, rfl, hd, ⟨no, _⟩, hl⟩ := o1
        obtain ⟨kvs, rfl, c1, c2, _⟩ := no
        refine ⟨d, kvs, rfl, .inl ⟨hd, fun o => ?_⟩⟩
        have s2 : Sx X.K Rt σ H A (upd H1 d (.frz o (.dK kvs))) e1 A1 (d :: B) := s1.wr List.mem_cons_self fun ys z => by
          rcases z with z | ⟨u, z⟩ <;> (rw [hd] at z; cases z)
        refine p1 (Itk d o kvs) _ A1 [] s2.drop0 ⟨rfl, _, jt_keys c1, upd_same, fun z => ?_⟩
        rcases z with z | z
        · rw [List.append_nil] at z
          exact s1.out List.mem_cons_self z
        · exact s1.rt d (List.mem_append_right _ List.mem_cons_self) z
      | dcl ks => exact p1.elim
      | ins c fs => exact p1.elim
    | val t =>
      cases t with
      | nd n ts =>
        cases n with
        | dcl ks =>
          obtain ⟨e0, hf⟩ := o1
          subst e0
          obtain ⟨d, xs, o, rfl, ⟨u, hd⟩, na, no, hl⟩ := hf
          obtain ⟨kvs, rfl, c1, c2, _⟩ := no
          exact ⟨d, kvs, rfl, .inr ⟨u, hd, p1 (Itk d u kvs) _ A1 [] s1 ⟨rfl, _, jt_keys c1, hd, na⟩⟩⟩
        | dct ks => exact p1.elim
        | ins c fs => exact p1.elim
      | _ => exact p1.elim
    | _ => exact p1.elim
/-- a slot's dict is locked -/
theorem Rl.lock {K : PySem.W.Frag} {Rt : Addr → Prop} {H : Hp} {σ : St} {env : Env} {A : List Addr} {ks : List Key} {ws : List W} (rl : Rl K Rt H σ env A) (hi : env[i]? = some (some (.nd (.dct ks) ws))) :
    ∃ d kvs, σ[i]? = some (some (.ref d)) ∧ H d = some (.dK kvs) ∧ kvs.map (·.1) = ks ∧ ∀ u, ∃ A', Sx K Rt σ H A (upd H d (.frz u (.dK kvs))) (env.set i (some (.val (.nd (.dcl ks) (fzs ws))))) A' [] ∧ ¬ Av (A' ++ []) Rt d := by
  obtain ⟨A1, B, A2, eA, _, hw, hu⟩ := RE.slot env σ A i rl.re (List.getElem?_eq_some_iff.mp hi).1
  obtain ⟨v, ev, ow⟩ := hw _ hi
  obtain ⟨d, xs, o, D, rfl, rfl, hd, ⟨no, _⟩, hl⟩ := ow
  have no' := no
  obtain ⟨kvs, rfl, c1, c2, nk⟩ := no
  subst eA
  obtain ⟨nd, out⟩ := nodup_mid rl.nd
  refine ⟨d, kvs, ev, hd, c1, fun u => ⟨A1 ++ A2, ?_, ?_⟩⟩
  have sub : ∀ b ∈ A1 ++ A2, b ∈ A1 ++ ((d :: D) ++ A2) := fun b hb => by
    rcases List.mem_append.mp hb with z | z
    · exact List.mem_append_left _ z
    · exact List.mem_append_right _ (List.mem_append_right _ z)
  have din : d ∈ A1 ++ ((d :: D) ++ A2) := List.mem_append_right _ (List.mem_append_left _ List.mem_cons_self)
  have nD : d ∉ D := by
    have := (List.nodup_append.mp (List.nodup_append.mp rl.nd).2.1).1
    exact (List.nodup_cons.mp this).1
  have tups : ∀ b ys, Rd H b (.tup ys) → Rd (upd H d (.frz u (.dK kvs))) b (.tup ys) := fun b ys q => by
    have e : b ≠ d := fun z => by
      subst z
      rcases q with q | ⟨o, q⟩ <;> (rw [hd] at q; cases q)
    exact Rd.mono q fun o q => by rw [upd_ne e]; exact q
  have nout : ¬ Av (A1 ++ A2) Rt d := fun z => z.elim (out d List.mem_cons_self) (rl.rt d din)
  · have kd : OwnL K (upd H d (.frz u (.dK kvs))) (Av (A1 ++ ((d :: D) ++ A2)) Rt) ws xs D := OwnL.mono ws xs D (fun b o q c => by
      rw [upd_ne fun z => ?_]
      · exact q
      · subst z
        rcases c with c | c
        · exact nD c
        · exact c (.inl din)) tups (fun b z => .inl z) hl
    have fz : FzL K (upd H d (.frz u (.dK kvs))) (Av (A1 ++ A2) Rt) (fzs ws) xs := OwnL.fz (fun b z => z.imp (sub b) id) ws xs D (fun b hb z => by
      rcases z with z | z
      · exact out b (List.mem_cons_of_mem _ hb) z
      · exact rl.rt b (List.mem_append_right _ (List.mem_append_left _ (List.mem_cons_of_mem _ hb))) z) kd
    have il : i < σ.length := by rw [← RE.len _ _ _ rl.re]; exact (List.getElem?_eq_some_iff.mp hi).1
    have re := (hu (upd H d (.frz u (.dK kvs))) (Av (A1 ++ A2) Rt) (fun b o q c => by
      rw [upd_ne fun z => ?_]
      · exact q
      · subst z
        rcases c with c | c
        · exact out b List.mem_cons_self c
        · exact c (.inl din)) tups (fun b z => .inl (z.imp (sub b) id))).2 (.val (.nd (.dcl ks) (fzs ws))) (.ref d) [] ⟨rfl, d, xs, .dK kvs, rfl, ⟨u, upd_same⟩, nout, ⟨kvs, rfl, c1, c2, nk⟩, fz⟩
    rw [set_same ev] at re
    refine ⟨⟨fun b o q n => ?_, tups, fun b hb => ?_⟩, by rw [List.append_nil]; exact nd, fun b hb => ?_, fun b z => ?_, fun b hb => (by cases hb), by rw [List.append_nil]; exact re⟩
    · rw [upd_ne fun z => n (by rw [z]; exact din)]
      exact q
    · rw [List.append_nil] at hb
      exact .inl (sub b hb)
    · rw [List.append_nil] at hb
      exact rl.rt b (sub b hb)
    · by_cases e : b = d
      · subst e; rw [upd_same]; exact fun q => by cases q
      · rw [upd_ne e]; exact rl.th b z
  · rw [List.append_nil]
    exact fun z => z.elim (out d List.mem_cons_self) (rl.rt d (List.mem_append_right _ (List.mem_append_left _ List.mem_cons_self)))
theorem sni_keysv (hN : X.N[i]? = some x) (hv : Vis X.env.scope x) (hd : (x == ("__debug__" : Str)) = false) (hcd : (x == ("__classdict__" : Str)) = false) : PI X tg (.Name x pos) (tI X.K g (.keysv i)) :=
  PI.imp (pi_keysL (pe_var hN hv hd hcd)) fun σ H Rr ⟨Rt, env, A, rl, p⟩ => by
    have p' : Post X.K g (PJ X.K) Rt σ H A (match env[i]? with
      | some (some (.nd (.dct ks) ws)) => .ok (ks.map tKey) (env.set i (some (.val (.nd (.dcl ks) (fzs ws)))))
      | some (some (.val (.nd (.dcl ks) _))) => .ok (ks.map tKey) env
      | _ => .no) Rr := p
    split at p'
    · rename_i ks ws e
      obtain ⟨d, kvs, ev, hd, c1, k⟩ := rl.lock e
      refine ⟨.ref d, ev, d, kvs, rfl, .inl ⟨hd, fun o => ?_⟩⟩
      obtain ⟨A', s2, no⟩ := k o
      exact p' (Itk d o kvs) _ A' [] s2 ⟨rfl, _, jt_keys c1, upd_same, no⟩
    · rename_i ks ts e
      obtain ⟨A1, B, A2, eA, _, hw, hu⟩ := RE.slot env σ A i rl.re (List.getElem?_eq_some_iff.mp e).1
      obtain ⟨v, ev, ow⟩ := hw _ e
      obtain ⟨e0, hf⟩ := ow
      obtain ⟨d, xs, o, rfl, ⟨u, hd⟩, na, no, hl⟩ := hf
      obtain ⟨kvs, rfl, c1, c2, _⟩ := no
      refine ⟨.ref d, ev, d, kvs, rfl, .inr ⟨u, hd, p' (Itk d u kvs) H A [] rl.sx ⟨rfl, _, jt_keys c1, hd, ?_⟩⟩⟩
      rw [List.append_nil]
      exact na
    · exact p'.elim
end
end Ev
/-! Ev25: written dicts. -/
namespace Ev
open PySem L2
/-- entries of a written dict: names and values -/
def KEnt (K : PySem.W.Frag) : List DictEntry → List Str → List T → Prop
  | [], [], [] => True
  | e :: r, k :: ks, t :: ts => (∃ tok, e.key = .str k tok) ∧ (∃ v, RelV v e.val ∧ ∀ H av, Fz K H av t v) ∧ KEnt K r ks ts
  | _, _, _ => False
structure KMn (K : PySem.W.Frag) (w : World) (d : Addr) (ks : List Str) (ts : List T) : Prop where
  kd : ∃ es n, KDict K w d es n ∧ KEnt K es.toList ks ts
def inrs (ks : List Str) : List Key := ks.map .inr
theorem KEnt.find {K : PySem.W.Frag} {z : Str} : ∀ {l : List DictEntry} {ks : List Str} {ts : List T}, KEnt K l ks ts → (l.find? (·.key.isStr z) = none ∧ getN (inrs ks) ts (.inr z) = none ∧ ((inrs ks).any fun j => decide (j = .inr z)) = false ∧ l.any (·.refKey) = false) ∨
    ∃ e t v, l.find? (·.key.isStr z) = some e ∧ getN (inrs ks) ts (.inr z) = some t ∧ ((inrs ks).any fun j => decide (j = .inr z)) = true ∧ RelV v e.val ∧ ∀ H av, Fz K H av t v
  | [], [], [], _ => .inl ⟨rfl, rfl, rfl, rfl⟩
  | e :: r, k :: ks, t :: ts, h => by
    obtain ⟨⟨tok, ek⟩, ⟨v, rv, fv⟩, h⟩ := h
    have g1 : getN (inrs (k :: ks)) (t :: ts) (.inr z) = if (Sum.inr k : Key) = .inr z then some t else getN (inrs ks) ts (.inr z) := rfl
    have g2 : ((inrs (k :: ks)).any fun j => decide (j = .inr z)) = (decide ((Sum.inr k : Key) = .inr z) || (inrs ks).any fun j => decide (j = .inr z)) := rfl
    have g3 : e.key.isStr z = (k == z) := by rw [ek]; rfl
    by_cases c : k = z
    · subst c
      refine .inr ⟨e, t, v, ?_, ?_, ?_, rv, fv⟩
      · rw [List.find?_cons, g3, beq_self_eq_true]
      · rw [g1, if_pos rfl]
      · rw [g2, decide_eq_true rfl, Bool.true_or]
    · have c1 : (k == z) = false := beq_eq_false_iff_ne.mpr c
      have c2 : ¬ (Sum.inr k : Key) = .inr z := fun q => c (Sum.inr.inj q)
      rw [g1, g2, if_neg c2, decide_eq_false c2, Bool.false_or, List.find?_cons, g3, c1, List.any_cons]
      rcases KEnt.find (z := z) h with ⟨h1, h2, h3, h4⟩ | h1
      · refine .inl ⟨h1, h2, h3, ?_⟩
        rw [h4, Bool.or_false]
        unfold DictEntry.refKey
        rw [ek]
      · exact .inr h1
theorem KMn.ns {K : PySem.W.Frag} {w : World} {d : Addr} {ks : List Str} {ts : List T} {z : Str} {es : Array DictEntry} {n : Nat} (D : KDict K w d es n) (h : KEnt K es.toList ks ts) : (PySem.W.nsIn K d z = some none ∧ getN (inrs ks) ts (.inr z) = none ∧ ((inrs ks).any fun j => decide (j = .inr z)) = false) ∨
    ∃ u t v, PySem.W.nsIn K d z = some (some u) ∧ getN (inrs ks) ts (.inr z) = some t ∧ ((inrs ks).any fun j => decide (j = .inr z)) = true ∧ RelV v u ∧ ∀ H av, Fz K H av t v := by
  unfold PySem.W.nsIn
  rw [D.at_]
  rcases KEnt.find (z := z) h with ⟨h1, h2, h3, h4⟩ | ⟨e, t, v, h1, h2, h3, h4, h5⟩
  · refine .inl ⟨?_, h2, h3⟩
    dsimp only
    rw [h1, h4]
    rfl
  · refine .inr ⟨e.val, t, v, ?_, h2, h3, h4, h5⟩
    dsimp only
    rw [h1]
section
variable {X : Cx} {g : Cfg} {tg a b : Expr} {ia ib : E} {pos p0 p1 : Pos} {x : Str} {n : Nat} {d : Addr} {ks : List Str} {ts : List T}
/-- x in D -/
theorem snd_kin (hG : g.G n = some (.nd (.dct (inrs ks)) ts)) (M : KMn X.K X.w d ks ts) (hm : X.mg x = some (.ref d)) (hg : Gl X x) (hd : (x == ("__debug__" : Str)) = false) (ha : PE X a (tE X.K g ia)) (hb : behindInMarks .In (.Name x p0) = false) : PE X (.Compare a [.In] [.Name x p0] pos) (tE X.K g (.kin n ia)) := by
  obtain ⟨es, m, D, E⟩ := M.kd
  refine ⟨fun pins s σ H Q I ⟨Rt, env, A, rl, p⟩ => ?_⟩
  refine wpAny_Compare1 (binT ha (pe_glob (v := .ref d) hg hm rfl hd) I (R := fun y z H2 => ∃ q, y = .str q ∧ z = .ref d ∧ Q (.bl ((inrs ks).any fun j => decide (j = .inr q))) H2) ⟨Rt, env, A, rl, Post.seq p fun w e1 v H1 A1 B1 s1 o1 p1 => ?_⟩ fun v u s2 y z H2 I2 ry rz q => ?_) hb
  · have p2 : Post X.K g (PO1 X.K) Rt σ H A (match (g.G n).bind kdct, w.fz with
      | some (ks, _), .str x => .ok (.val (.bl (ks.any fun j => decide (j = .inr x)))) e1
      | _, _ => .no) Q := p1
    rw [hG] at p2
    have f1 := s1.fz0 o1
    cases e : w.fz with
    | str q =>
      rw [e] at p2 f1
      exact ⟨q, f1, rfl, p2 _ H1 A1 [] s1.drop0 ⟨rfl, rfl⟩⟩
    | _ => rw [e] at p2; exact p2.elim
  · obtain ⟨q, ey, ez, h⟩ := q
    subst ey ez
    rcases KMn.ns (z := q) D E with ⟨h1, _, h3⟩ | ⟨u', t, v', h1, _, h3, _⟩
    · exact op_in_kd D pins s2 σ H2 _ _ v u Q I2 ry rz ⟨q, none, rfl, rfl, h1, by rw [h3] at h; exact h⟩
    · exact op_in_kd D pins s2 σ H2 _ _ v u Q I2 ry rz ⟨q, some u', rfl, rfl, h1, by rw [h3] at h; exact h⟩
/-- D[x] -/
theorem snd_kget (hG : g.G n = some (.nd (.dct (inrs ks)) ts)) (M : KMn X.K X.w d ks ts) (hm : X.mg x = some (.ref d)) (hg : Gl X x) (hd : (x == ("__debug__" : Str)) = false) (ha : PE X a (tE X.K g ia)) (hs : PlainIx a) : PE X (.Subscript (.Name x p0) a pos) (tE X.K g (.kget n ia)) := by
  obtain ⟨es, m, D, E⟩ := M.kd
  refine ⟨fun pins s σ H Q I ⟨Rt, env, A, rl, p⟩ => ?_⟩
  refine PyProof.Rows.Subscript_ (binT (pe_glob (v := .ref d) hg hm rfl hd) ha I (R := fun z y H2 => ∃ q v, y = .str q ∧ z = .ref d ∧ KDct X.K X.w d q v ∧ Q v H2) ⟨Rt, env, A, rl, Post.seq p fun w e1 v H1 A1 B1 s1 o1 p1 => ?_⟩ fun v u s2 z y H2 I2 rz ry q => ?_)
  · have p2 : Post X.K g (PO1 X.K) Rt σ H A (match (g.G n).bind kdct, w.fz with
      | some (ks, ts), .str x => R.of ((getN ks ts (.inr x)).map .val) e1
      | _, _ => .no) Q := p1
    rw [hG] at p2
    have f1 := s1.fz0 o1
    cases e : w.fz with
    | str q =>
      rw [e] at p2 f1
      obtain ⟨w', ew, p3⟩ := Post.of (show Post X.K g (PO1 X.K) Rt σ H A (R.of ((getN (inrs ks) ts (.inr q)).map .val) e1) Q from p2)
      rcases KMn.ns (z := q) D E with ⟨_, h2, _⟩ | ⟨u', t, v', h1, h2, _, h4, h5⟩
      · rw [h2] at ew; cases ew
      · rw [h2] at ew
        cases ew
        exact ⟨q, v', f1, rfl, ⟨es, m, u', D.at_, D.lit, h1, h4⟩, p3 v' H1 A1 [] s1.drop0 ⟨rfl, h5 _ _⟩⟩
    | _ => rw [e] at p2; exact p2.elim
  · obtain ⟨q, r, ey, ez, h, hq⟩ := q
    subst ey ez
    exact ix_kdict _ _ pins s2 σ H2 _ _ v u Q I2 rz ry ⟨d, q, r, rfl, rfl, h, hq⟩ (hs _ _)
end
/-! ### its keys in order -/
theorem KEnt.key {K : PySem.W.Frag} : ∀ {l : List DictEntry} {ks : List Str} {ts : List T}, KEnt K l ks ts → ∀ {i : Nat} {e : DictEntry}, l[i]? = some e → ∃ k tok, ks[i]? = some k ∧ e.key = .str k tok
  | [], [], [], _, i, e, h => by simp at h
  | e :: r, k :: ks, t :: ts, h, 0, e', h' => by
    obtain ⟨⟨tok, ek⟩, _, _⟩ := h
    cases h'
    exact ⟨k, tok, rfl, ek⟩
  | e :: r, k :: ks, t :: ts, h, i + 1, e', h' => by
    obtain ⟨_, _, h⟩ := h
    exact KEnt.key h (by simpa using h')
theorem KEnt.len {K : PySem.W.Frag} : ∀ {l : List DictEntry} {ks : List Str} {ts : List T}, KEnt K l ks ts → l.length = ks.length
  | [], [], [], _ => rfl
  | e :: r, k :: ks, t :: ts, h => by
    obtain ⟨_, _, h⟩ := h
    rw [List.length_cons, List.length_cons, KEnt.len h]
def Itw (ks : List Str) : L2.It := ⟨fun i _ => i < ks.length, fun i H x H' => H' = H ∧ ∃ k, ks[i]? = some k ∧ x = .str k, fun i _ => ks.length ≤ i⟩
theorem jt_w {K : PySem.W.Frag} {ks : List Str} : Jt K (Itw ks) ((inrs ks).map tKey) fun _ _ => True where
  mono := fun _ _ _ _ _ _ _ _ => trivial
  stop := fun H av i _ hi => by
    rw [List.length_map, inrs, List.length_map] at hi
    exact hi
  go := fun H av i t _ hi => by
    have := (List.getElem?_eq_some_iff.mp hi).1
    rw [List.length_map, inrs, List.length_map] at this
    exact this
  yld := fun H av i t x H' _ hi y => by
    obtain ⟨e1, k, hk, ex⟩ := y
    subst e1 ex
    rw [inrs, List.getElem?_map, List.getElem?_map, hk] at hi
    cases hi
    exact ⟨fun _ _ q => q, rfl⟩
theorem kd_raw {K : PySem.W.Frag} {w : World} {d : Addr} {es : Array DictEntry} {n : Nat} {h : Heap} (D : KDict K w d es n) (hK : K.In h) : h.DictRaw d es n := ⟨_, hK _ _ D.at_, ⟨rfl, rfl, rfl⟩, rfl⟩
theorem turn_w {P : Program} {w : World} {K : PySem.W.Frag} {tg : Expr} {d : Addr} {es : Array DictEntry} {n : Nat} {ks : List Str} {ts : List T} (it : Addr) (D : KDict K w d es n) (N : KEnt K es.toList ks ts) : Turn P w K tg (Itw ks) [it] it (fun i h => h.IsKeyIter it d i es.size n) where
  mem := by simp
  obj := fun i h st b hb => by
    cases (show b = it by simpa using hb)
    obtain ⟨oi, e, c, dd⟩ := st
    exact ⟨oi, e, fun v z => by rw [dd] at z; cases z⟩
  keep := fun i h h' st k => st.at fun oi e => k it (by simp) oi e
  item := by
    intro X hP hw hK hc i pins s σ H E I hf st hg
    subst hP hw hK
    obtain ⟨f0, f1, f2, f3, f4, f5⟩ := hf it (by simp)
    have sz : es.size = ks.length := by rw [← Array.length_toList]; exact N.len
    have hi : i < es.size := by rw [sz]; exact hg
    refine wpAny_pyNext_keys_item_raw st (kd_raw D I.kIn) hi fun h' st' sb => ?_
    have J : Inv X pins σ H { s with heap := h' } := I.turned (t' := s.toks) (fun b ob hb e => (sb.2 b hb).trans e) f0 f1 f3 f4 f5
    obtain ⟨k, tok, hk, ek⟩ := N.key (i := i) (e := es[i]) (by rw [Array.getElem?_toList]; exact Array.getElem?_eq_getElem hi)
    obtain ⟨oi, e, c, dd⟩ := id st'
    exact ⟨es[i].key, rfl, go_of (s := { s with heap := h' }) e c dd (by decide) ⟨.str k, H, J, ⟨tok, ek⟩, ⟨rfl, k, hk, rfl⟩, st', fun b hb => (hf b hb).1⟩⟩
  done := by
    intro X hP hw hK hc i pins s σ H E I hf st hg
    subst hP hw hK
    obtain ⟨f0, f1, f2, f3, f4, f5⟩ := hf it (by simp)
    have sz : es.size = ks.length := by rw [← Array.length_toList]; exact N.len
    exact wpAny_pyNext_keys_end_raw (I.ok.hd hc) st (kd_raw D I.kIn) (by rw [sz]; exact hg) fun h' eb => ⟨rfl, I.turned (t' := s.toks) (fun b ob hb e => eb b ob hb e) f0 f1 f3 f4 f5⟩
  self := fun A i s Q E st h => wpAny_pyIter_keyiter st h
section
variable {X : Cx} {g : Cfg} {tg a b : Expr} {ia ib : E} {pos p0 p1 : Pos} {x : Str} {n : Nat} {d : Addr} {ks : List Str} {ts : List T}
/-- for k in D -/
theorem sni_kk (hG : g.G n = some (.nd (.dct (inrs ks)) ts)) (M : KMn X.K X.w d ks ts) (hm : X.mg x = some (.ref d)) (hg : Gl X x) (hd : (x == ("__debug__" : Str)) = false) : PI X tg (.Name x p0) (tI X.K g (.kk n)) := by
  obtain ⟨es, m, D, E⟩ := M.kd
  refine ⟨fun pins s σ H R I ⟨Rt, env, A, rl, p⟩ => ?_⟩
  have p2 : Post X.K g (PJ X.K) Rt σ H A (match (g.G n).bind kdct with
    | some (ks, _) => .ok (ks.map tKey) env
    | none => .no) R := p
  rw [hG] at p2
  refine ld_glob I hg hm ?_ hd
  obtain ⟨o, ho, hx, hdt⟩ := kd_raw D I.kIn
  exact iter_keys D.low ho hx hdt (pi_one (tk := s.toks) I _ (turn_w _ D E) ⟨_, Heap.get?_push_size _ rfl, rfl, rfl⟩ (p2 (Itw ks) H A [] rl.sx ⟨rfl, _, jt_w, trivial⟩))
theorem keys_vals {es : Array DictEntry} {acc : List Value} (N : KEnt X.K es.toList ks ts) (hl : acc.length = es.size) (ha : ∀ (j : Nat) (v : Value), acc[j]? = some v → ∃ hi : j < es.size, v = es[j].key) : Vals (ks.map V.str) acc := by
  have sz : es.size = ks.length := by rw [← Array.length_toList]; exact N.len
  have go : ∀ (ls : List Str) (bs : List Value), ls.length = bs.length → (∀ (j : Nat) (k : Str) (v : Value), ls[j]? = some k → bs[j]? = some v → ∃ tok, v = .str k tok) → Vals (ls.map V.str) bs := by
    intro ls
    induction ls with
    | nil =>
      intro bs e _
      cases bs with
      | nil => exact .nil
      | cons b bs => cases e
    | cons l ls ih =>
      intro bs e h
      cases bs with
      | nil => cases e
      | cons b bs =>
        obtain ⟨tok, eb⟩ := h 0 l b rfl rfl
        exact .cons ⟨tok, eb⟩ (ih bs (Nat.succ.inj e) fun j k v h1 h2 => h (j + 1) k v (by simpa using h1) (by simpa using h2))
  refine go ks acc (by rw [hl, sz]) fun j k v h1 h2 => ?_
  obtain ⟨hi, ev⟩ := ha j v h2
  obtain ⟨k', tok, hk, ek⟩ := N.key (i := j) (e := es[j]) (by rw [Array.getElem?_toList]; exact Array.getElem?_eq_getElem hi)
  rw [h1] at hk
  cases hk
  exact ⟨tok, ev.trans ek⟩
theorem call_listK {es : Array DictEntry} {m : Nat} (hcalm : X.calm = true) (D : KDict X.K X.w d es m) (N : KEnt X.K es.toList ks ts) (hz : ks.length ≤ 16777216) : CallR X (.type "list") (fun xs H Q => xs = [.ref d] ∧ ∀ p, H p = none → Q (.ref p) (upd H p (.lst (ks.map V.str)))) := by
  intro pins s σ H xs us Q I r ⟨ex, q⟩
  subst ex
  obtain ⟨u, eu, rx⟩ := vals1 r
  subst eu
  cases rx
  have sz : es.size = ks.length := by rw [← Array.length_toList]; exact N.len
  refine PySem.W.kdl_call (KdlSrc.rawDict (es := es) (ep := m) D.low) (I.ok.hd hcalm) (kd_raw D I.kIn) (by rw [sz, sizeLine_eq]; exact hz) fun h' tk acc c' hk hD hacc => ?_
  have hv : Vals (ks.map V.str) acc.toList := keys_vals N (by rw [Array.length_toList]; exact hacc.1) fun j v e => hacc.2 j v (by rw [← Array.getElem?_toList]; exact e)
  exact ⟨.ref s.heap.objs.size, upd H s.heap.objs.size (.lst (ks.map V.str)), I.laid (t' := tk) hk (Nat.le_refl _)
    (show ObjOk X.prog X.w _ _ _ (.lst (ks.map V.str)) from ⟨by rw [List.length_map, sizeLine_eq]; exact hz, acc.toList, c', hv, by rw [Array.toArray_toList]; exact hD⟩), rfl, q _ (I.hok.fresh (Nat.le_refl _))⟩
theorem fz_strs {K : PySem.W.Frag} {H : Hp} {av : Addr → Prop} : ∀ ks : List Str, FzL K H av ((inrs ks).map tKey) (ks.map V.str)
  | [] => rfl
  | k :: ks => ⟨_, _, rfl, rfl, fz_strs ks⟩
/-- list(D) -/
theorem snd_klist (hc : X.calm = true) (hG : g.G n = some (.nd (.dct (inrs ks)) ts)) (M : KMn X.K X.w d ks ts) (hz : ks.length ≤ 16777216) (hm : X.mg x = some (.ref d)) (hg : Gl X x) (hd : (x == ("__debug__" : Str)) = false) (hgl : Gl X "list") (hml : X.mg "list" = none)
    (hs : starEach [.Name x p1] X.env = (false, eval (.Name x p1) X.env) :: starEach [] X.env) : PE X (.Call (.Name "list" p0) [.Name x p1] [] pos) (tE X.K g (.klist n)) := by
  obtain ⟨es, m, D, E⟩ := M.kd
  refine PE.imp (pe_callTy (t := tCons (tC (.ref d)) tNil) (call_listK hc D E hz) hgl hml rfl (pa_cons (pe_glob hg hm rfl hd) pa_nil hs) (by decide) (by decide) hs rfl) fun σ H Q ⟨Rt, env, A, rl, p⟩ => ?_
  have p2 : Post X.K g (PO1 X.K) Rt σ H A (match (g.G n).bind kdct with
    | some (ks, _) => .ok (.lst (ks.map fun k => .val (tKey k))) env
    | none => .no) Q := p
  rw [hG] at p2
  refine ⟨rfl, fun q hq => ?_⟩
  have s2 := rl.sx.new (o := .lst (ks.map V.str)) hq
  have ow := FzL.own _ _ (fz_strs (K := X.K) (H := upd H q (.lst (ks.map V.str))) (av := Av (A ++ [q]) Rt) ks)
  rw [List.map_map] at ow
  exact p2 (.ref q) _ A [q] s2 ⟨q, ks.map V.str, [], rfl, rfl, upd_same, ow⟩
end
end Ev
/-! Ev26: sorted sets of texts. -/
namespace Ev
open PySem L2
structure SxIs (S : Str → Bool) (n : Nat) (is : List Str) : Prop where
  mem : ∀ i, S i = true ↔ i ∈ is
  nd : is.Nodup
  len : n = is.length
theorem SxIs.nil : SxIs (fun _ => false) 0 [] := ⟨fun i => by simp, List.nodup_nil, rfl⟩
theorem addS_mem {acc : List Str} {k j : Str} : j ∈ addS acc k ↔ j ∈ acc ∨ j = k := by
  unfold addS
  by_cases c : (acc.any fun y => decide (y = k)) = true
  · rw [if_pos c]
    obtain ⟨y, hy, e⟩ := List.any_eq_true.mp c
    cases of_decide_eq_true e
    exact ⟨.inl, fun z => z.elim id fun z => by rw [z]; exact hy⟩
  · rw [if_neg c]
    simp
theorem addS_len (acc : List Str) (k : Str) : (addS acc k).length ≤ acc.length + 1 := by
  unfold addS
  by_cases c : (acc.any fun y => decide (y = k)) = true
  · rw [if_pos c]; omega
  · rw [if_neg c, List.length_append]; exact Nat.le_refl _
theorem SxIs.add {S : Str → Bool} {n : Nat} {is : List Str} (h : SxIs S n is) (k : Str) : SxIs (fun j => S j || decide (j = k)) (if S k = true then n else n + 1) (addS is k) := by
  have hk : (is.any fun y => decide (y = k)) = true ↔ k ∈ is := by
    rw [List.any_eq_true]
    exact ⟨fun ⟨y, hy, e⟩ => by cases of_decide_eq_true e; exact hy, fun z => ⟨k, z, decide_eq_true rfl⟩⟩
  refine ⟨fun i => ?_, ?_, ?_⟩
  · rw [addS_mem, Bool.or_eq_true, decide_eq_true_iff, h.mem]
  · unfold addS
    by_cases c : (is.any fun y => decide (y = k)) = true
    · rw [if_pos c]; exact h.nd
    · rw [if_neg c]
      refine List.nodup_append.mpr ⟨h.nd, by simp, fun a ha b hb e => ?_⟩
      cases List.mem_singleton.mp hb
      subst e
      exact c (hk.mpr ha)
  · unfold addS
    by_cases c : (is.any fun y => decide (y = k)) = true
    · rw [if_pos c, if_pos ((h.mem k).mpr (hk.mp c))]; exact h.len
    · rw [if_neg c, if_neg fun z => c (hk.mpr ((h.mem k).mp z)), List.length_append, h.len]; rfl
theorem fzo_str {w : W} {i : Str} {K : PySem.W.Frag} {H : Hp} {av : Addr → Prop} {v : V} {B : List Addr} (e : w.fz = .str i) (ow : Own K H av w v B) : B = [] := by
  cases w with
  | val t => exact ow.1
  | _ => cases e
theorem fz_str {w : W} {i : Str} {K : PySem.W.Frag} {H : Hp} {av : Addr → Prop} {v : V} {B : List Addr} (e : w.fz = .str i) (ow : Own K H av w v B) : v = .str i := by
  cases w with
  | val t =>
    have e' : t = .str i := e
    subst e'
    exact ow.2
  | _ => cases e
/-- the members of a set comprehension -/
def evSx (G : Nat → Option T) (C : Calls) (own : List Nat) (tg : Tg) (it : Ev.It) (cs : Tts) (e : E) (env : Env) : R (List Str) := (evI G C it env).bind fun ts env1 => if (hidOk env1 own && tgIn tg own) = true then (match sxL tg own (evTs G C cs) (evE G C e) ts [] (wipeE env1 own) with
    | .ok is env2 => .ok is (backE env1 env2 own)
    | _ => .no) else .no
theorem evE_srtX {G : Nat → Option T} {C : Calls} {own : List Nat} {tg : Tg} {it : Ev.It} {cs : Tts} {e : E} {env : Env} : evE G C (.srtX own tg it cs e) env = (evSx G C own tg it cs e env).bind fun ss env1 => .ok (.lst ((sortS ss).map fun x => .val (.str x))) env1 := by
  show ((evI G C it env).bind fun ts env1 => if (hidOk env1 own && tgIn tg own) = true then (match sxL tg own (evTs G C cs) (evE G C e) ts [] (wipeE env1 own) with
    | .ok ss env2 => .ok (W.lst ((sortS ss).map fun x => W.val (.str x))) (backE env1 env2 own)
    | _ => .no) else .no) = _
  unfold evSx
  cases evI G C it env with
  | no => rfl
  | exc c t e => rfl
  | ok ts env1 =>
    show (if (hidOk env1 own && tgIn tg own) = true then _ else _) = R.bind (if (hidOk env1 own && tgIn tg own) = true then _ else _) _
    by_cases c : (hidOk env1 own && tgIn tg own) = true
    · rw [if_pos c, if_pos c]
      cases sxL tg own (evTs G C cs) (evE G C e) ts [] (wipeE env1 own) with
      | no => rfl
      | exc c t e => rfl
      | ok ss env2 => rfl
    · rw [if_neg c, if_neg c]; rfl
def PX (w : World) : List Str → V → Hp → (Addr → Prop) → List Addr → Prop := fun is v H _ B => ∃ a S n, v = .ref a ∧ B = [a] ∧ H a = some (TxO w a S n) ∧ SxIs S n is ∧ n < 4096
def tX (K : PySem.W.Frag) (w : World) (g : Cfg) (own : List Nat) (tg : Tg) (it : Ev.It) (cs : Tts) (e : E) : TE := fun σ H Q => ∃ Rt env A, Rl K Rt H σ env A ∧ Post K g (PX w) Rt σ H A (evSx g.G g.C own tg it cs e env) Q
section
variable {X : Cx} {g : Cfg}
theorem sx_ev {own : List Nat} {tgi : Tg} {it : Ev.It} {cs : Tts} {e : E} {σ : St} {H : Hp} {Q : VK} (hlen : ∀ i ∈ tgs tgi, i < X.N.length) (hσ : σ.length = X.N.length) (h : tX X.K X.w g own tgi it cs e σ H Q) :
    tSg (fun p => TxO X.w p (fun _ => false) 0) (rTxAdd X.w) (tI X.K g it) (gT X.K tgi) (tTs X.K g.mute cs) (tE X.K g.mute e) own σ H Q := by
  obtain ⟨Rt, env, A, rl, p⟩ := h
  have hel : env.length = X.N.length := by rw [RE.len _ _ _ rl.re, hσ]
  refine ⟨Rt, env, A, rl, Post.seqE p fun ts e1 J H1 A1 B1 er s1 o1 p1 => ?_⟩
  obtain ⟨rfl, P, jt, pP⟩ := o1
  intro D hD
  have p2 : Post X.K g (PX X.w) Rt σ H A (if (hidOk e1 own && tgIn tgi own) = true then (match sxL tgi own (evTs g.G g.C cs) (evE g.G g.C e) ts [] (wipeE e1 own) with
    | .ok is env2 => .ok is (backE e1 env2 own)
    | _ => .no) else .no) Q := p1
  have c0 : (hidOk e1 own && tgIn tgi own) = true := by
    by_cases c : (hidOk e1 own && tgIn tgi own) = true
    · exact c
    · rw [if_neg c] at p2; exact p2.elim
  rw [if_pos c0] at p2
  rw [Bool.and_eq_true] at c0
  obtain ⟨hid, tin⟩ := c0
  have bare := hidOk_of hid
  cases el : sxL tgi own (evTs g.G g.C cs) (evE g.G g.C e) ts [] (wipeE e1 own) with
  | exc _ _ _ => rw [el] at p2; exact p2.elim
  | no => rw [el] at p2; exact p2.elim
  | ok isF envF =>
  rw [el] at p2
  have re1 : RE X.K H1 (Av (A1 ++ []) Rt) e1 σ A1 := s1.re
  have olds : ∀ (Hc : Hp) (A' : List Addr), Go A1 H1 A' Hc → ∀ j ∈ own, e1[j]? = some none ∨ ∃ t v, e1[j]? = some (some (.val t)) ∧ σ[j]? = some (some v) ∧ Fz X.K Hc (Av A' Rt) t v := fun Hc A' go j hj => by
    rcases bare j hj with z | ⟨t, z⟩
    · exact .inl z
    · obtain ⟨_, _, _, _, _, hw, _⟩ := RE.slot e1 σ A1 j re1 (List.getElem?_eq_some_iff.mp z).1
      obtain ⟨v, ev, ow⟩ := hw _ z
      refine .inr ⟨t, v, z, ev, Fz.mono (fun b o q n => go.keep b o q fun z => n (.inl (List.mem_append_left _ z))) go.tups (fun b z => ?_) t v ow.2⟩
      rcases z with z | z
      · exact (go.new b z).imp (fun z => .inl (List.mem_append_left _ z)) id
      · exact .inl (.inr z)
  have tgin : ∀ i ∈ tgs tgi, i ∈ own := fun i hi => by
    cases tgi with
    | var k =>
      rcases List.mem_cons.mp hi with rfl | z
      · exact List.contains_iff_mem.mp tin
      · cases z
    | tup is => exact List.contains_iff_mem.mp (List.all_eq_true.mp tin i hi)
  let St8 : Nat → Hp → Prop := fun i Hc => ∃ envi Ai acc, sxL tgi own (evTs g.G g.C cs) (evE g.G g.C e) (ts.drop i) acc envi = .ok isF envF ∧ Sx X.K Rt (L2.wipe σ own) H A Hc envi Ai [D] ∧
      (∃ S n, Hc D = some (TxO X.w D S n) ∧ SxIs S n acc) ∧ acc.length < 4096 ∧ P Hc (Av (Ai ++ [D]) Rt) ∧ Go A1 H1 (Ai ++ [D]) Hc ∧ ∀ j ∈ own, envi[j]? = some none
  refine ⟨fun i m Hc => m = ts.length - i ∧ i ≤ ts.length ∧ St8 i Hc, ⟨ts.length, ?_⟩, ?_⟩
  · have s2 : Sx X.K Rt σ H A (upd H1 D (TxO X.w D (fun _ => false) 0)) e1 A1 [D] := s1.new hD
    refine ⟨by simp, Nat.zero_le _, wipeE e1 own, A1, [], by simpa using el, ⟨s2.go, s2.nd, s2.rt, s2.th, s2.bth, RE.wipe own bare s2.re⟩, ⟨_, _, upd_same, SxIs.nil⟩, (by decide), ?_, ?_, fun j hj => wipeE_none own j hj (bare j hj).lt⟩
    · exact jt.mono _ _ _ _ pP (fun b o q _ => newkeep hD b o q) (newtups hD) (Sx.newav hD)
    · exact ((Go.refl (A := A1) (H := H1)).upd hD).sub fun b hb => by
        rcases List.mem_append.mp hb with z | z
        · exact List.mem_cons_of_mem _ z
        · rcases List.mem_cons.mp z with rfl | z
          · exact List.mem_cons_self
          · cases z
  · rintro i m Hc ⟨rfl, hile, envi, Ai, acc, eL, sx, ⟨S, n, hS, si⟩, hacc, pH, go, nones⟩
    by_cases hlt : i < ts.length
    · have et : ts.drop i = ts[i] :: ts.drop (i + 1) := List.drop_eq_getElem_cons hlt
      have gi : ts[i]? = some ts[i] := List.getElem?_eq_getElem hlt
      rw [et] at eL
      have eL0 : (match tgE tgi ts[i] envi with
        | none => R.no
        | some env1 => (evTs g.G g.C cs env1).bind fun b env2 => match b with
          | true => (evE g.G g.C e env2).bind fun w env3 => match w.fz with
            | .str k => if (decide (acc.length < 4095) && hidOk env3 own) = true then sxL tgi own (evTs g.G g.C cs) (evE g.G g.C e) (ts.drop (i + 1)) (addS acc k) (wipeE env3 own) else .no
            | _ => .no
          | false => if hidOk env2 own = true then sxL tgi own (evTs g.G g.C cs) (evE g.G g.C e) (ts.drop (i + 1)) acc (wipeE env2 own) else .no) = .ok isF envF := eL
      cases etg : tgE tgi ts[i] envi with
      | none => rw [etg] at eL0; cases eL0
      | some env1 =>
      rw [etg] at eL0
      obtain ⟨b, env2, eb, eL1⟩ := bind_ok eL0
      refine .inr ⟨jt.go Hc _ i _ pH gi, St8 (i + 1), fun Hn w => ⟨ts.length - (i + 1), by omega, rfl, hlt, w⟩, fun x Hy y => ?_⟩
      obtain ⟨ext, fx⟩ := jt.yld Hc _ i _ x Hy pH gi y
      have sx1 := sx.ext ext
      have hS1 : Hy D = some (TxO X.w D S n) := ext D _ hS
      have pH1 : P Hy (Av (Ai ++ [D]) Rt) := jt.mono _ _ _ _ pH (fun b o q _ => ext b o q) (fun b xs q => Rd.mono q fun o q => ext b o q) (fun b z => .inl z)
      have go1 : Go A1 H1 (Ai ++ [D]) Hy := ⟨fun b o q n => ext b o (go.keep b o q n), fun b xs q => Rd.mono (go.tups b xs q) fun o q => ext b o q, go.new⟩
      have elen : envi.length = X.N.length := by rw [RE.len _ _ _ sx.re, wipe_length, hσ]
      have fx1 : Fz X.K Hy (Av Ai (RtB [D] Rt)) ts[i] x := Fz.mono (fun _ _ q _ => q) (fun _ _ q => q) (fun b z => .inl (by
        rcases z with z | z | z
        · exact .inl (List.mem_append_left _ z)
        · exact .inl (List.mem_append_right _ z)
        · exact .inr z)) _ _ fx
      refine tg_ok tgi (fun j hj => by rw [elen]; exact hlen j hj) sx1.rl fx1 etg fun σ2 A2 sub rl2 kσ => ?_
      have l2 : σ2.length = σ.length := by
        rw [← RE.len _ _ _ rl2.re, tgE_len etg, elen, hσ]
      have weq : L2.wipe σ2 own = L2.wipe σ own := by
        refine wipe_eq l2 fun j hj => ?_
        rw [kσ j (fun z => hj (tgin j z)), wipe_out hj]
      refine ⟨weq, RtB [D] Rt, env1, A2, rl2, ?_⟩
      have sxT : Sx X.K Rt σ2 H A Hy env1 A2 [D] := sx1.retg rl2 sub
      have suba : ∀ b, Av (A2 ++ [D]) Rt b → Av (Ai ++ [D]) Rt b := fun b z => by
        rcases z with z | z
        · rcases List.mem_append.mp z with z | z
          · exact .inl (List.mem_append_left _ (sub b z))
          · exact .inl (List.mem_append_right _ z)
        · exact .inr z
      have pT : P Hy (Av (A2 ++ [D]) Rt) := jt.mono _ _ _ _ pH1 (fun _ _ q _ => q) (fun _ _ q => q) (fun b z => .inl (suba b z))
      have goT : Go A1 H1 (A2 ++ [D]) Hy := go1.sub fun b hb => by
        rcases List.mem_append.mp hb with z | z
        · exact List.mem_append_left _ (sub b z)
        · exact List.mem_append_right _ z
      show Post X.K g.mute PBl (RtB [D] Rt) σ2 Hy A2 (evTs g.G g.C cs env1) _
      rw [eb]
      intro b' H3 A3 B3 s3 hb3
      obtain ⟨e3, e4⟩ := hb3
      subst e3 e4
      have hS3 : H3 D = some (TxO X.w D S n) := s3.go.keep D _ hS1 (sxT.out List.mem_cons_self)
      have s4 : Sx X.K Rt σ2 H A H3 env2 A3 [D] := sxT.next s3
      have p3 : P H3 (Av (A3 ++ [D]) Rt) := sxT.nextP jt s3 pT
      have go3 : Go A1 H1 (A3 ++ [D]) H3 := goT.trans (show Go A2 Hy A3 H3 from s3.go.sub fun b hb => List.mem_append_left _ hb)
      cases b' with
      | false =>
        have eL2 : (if hidOk env2 own = true then sxL tgi own (evTs g.G g.C cs) (evE g.G g.C e) (ts.drop (i + 1)) acc (wipeE env2 own) else .no) = .ok isF envF := eL1
        by_cases c : hidOk env2 own = true
        · rw [if_pos c] at eL2
          have b2 := hidOk_of c
          have rw2 := RE.wipe own b2 s4.re
          rw [weq] at rw2
          exact ⟨wipeE env2 own, A3, acc, eL2, ⟨s4.go, s4.nd, s4.rt, s4.th, s4.bth, rw2⟩, ⟨S, n, hS3, si⟩, hacc, p3, go3, fun j hj => wipeE_none own j hj (b2 j hj).lt⟩
        · rw [if_neg c] at eL2; cases eL2
      | true =>
        obtain ⟨w, env3, ew, eL2⟩ := bind_ok (show ((evE g.G g.C e env2).bind fun w env3 => match w.fz with
            | .str k => if (decide (acc.length < 4095) && hidOk env3 own) = true then sxL tgi own (evTs g.G g.C cs) (evE g.G g.C e) (ts.drop (i + 1)) (addS acc k) (wipeE env3 own) else .no
            | _ => .no) = .ok isF envF from eL1)
        refine ⟨RtB [D] Rt, env2, A3, s4.rl, ?_⟩
        show Post X.K g.mute (PO1 X.K) (RtB [D] Rt) σ2 H3 A3 (evE g.G g.C e env2) _
        rw [ew]
        intro yv H4 A4 B4 s5 o5
        cases ek : w.fz with
        | str k =>
          simp only [ek] at eL2
          have eB := fzo_str ek o5
          subst eB
          have ev := fz_str ek o5
          subst ev
          have hS4 : H4 D = some (TxO X.w D S n) := s5.go.keep D _ hS3 (s4.out List.mem_cons_self)
          have s6 : Sx X.K Rt σ2 H A H4 env3 A4 [D] := s4.next s5
          have p4 : P H4 (Av (A4 ++ [D]) Rt) := s4.nextP jt s5 p3
          have go4 : Go A1 H1 (A4 ++ [D]) H4 := (go3.trans s5.go).sub fun b hb => by
            rcases List.mem_append.mp hb with z | z
            · exact List.mem_append_left _ (List.mem_append_left _ z)
            · exact List.mem_append_right _ z
          by_cases c : (decide (acc.length < 4095) && hidOk env3 own) = true
          · rw [if_pos c] at eL2
            rw [Bool.and_eq_true] at c
            have c1 := of_decide_eq_true c.1
            have aD : Av (A4 ++ [D]) Rt D := .inl (List.mem_append_right _ List.mem_cons_self)
            have lD : ∀ xs', ¬ Rd H4 D (.tup xs') := fun xs' z => by rcases z with z | ⟨o, z⟩ <;> (rw [hS4] at z; cases z)
            have s7 := s6.wr (o := TxO X.w D (fun j => S j || decide (j = k)) (if S k = true then n else n + 1)) List.mem_cons_self lD
            have b2 := hidOk_of c.2
            have rw2 := RE.wipe own b2 s7.re
            rw [weq] at rw2
            refine ⟨D, k, S, n, rfl, rfl, hS4, (by rw [si.len]; show acc.length + 1 < 4096; omega), wipeE env3 own, A4, addS acc k, eL2, ⟨s7.go, s7.nd, s7.rt, s7.th, s7.bth, rw2⟩, ⟨_, _, upd_same, si.add k⟩, ?_, ?_, ?_, fun j hj => wipeE_none own j hj (b2 j hj).lt⟩
            · have := addS_len acc k
              omega
            · refine jt.mono _ _ _ _ p4 (fun b o q n => ?_) (fun b xs' q => ?_) (fun b z => .inl z)
              · rw [upd_ne (fun z => n (by rw [z]; exact aD))]; exact q
              · have ne : b ≠ D := fun z => by subst z; exact lD xs' q
                exact Rd.mono q fun u q => by rw [upd_ne ne]; exact q
            · refine ⟨fun b o q n => ?_, fun b xs' q => ?_, go4.new⟩
              · have q4 := go4.keep b o q n
                have ne : b ≠ D := fun z => by
                  subst z
                  rw [hD] at q; cases q
                rw [upd_ne ne]; exact q4
              · have q4 := go4.tups b xs' q
                have ne : b ≠ D := fun z => by subst z; exact lD xs' q4
                exact Rd.mono q4 fun u q => by rw [upd_ne ne]; exact q
          · rw [if_neg c] at eL2; cases eL2
        | _ => simp only [ek] at eL2; cases eL2
    · have ei : i = ts.length := by omega
      subst ei
      rw [List.drop_length] at eL
      cases (show R.ok acc envi = R.ok isF envF from eL)
      refine .inl ⟨jt.stop Hc _ _ pH (Nat.le_refl _), ?_⟩
      have rb := (RE.back own (fun j hj => .inl (nones j hj)) (olds Hc (Ai ++ [D]) go) sx.re).1
      rw [backS_wipe] at rb
      exact p2 (.ref D) Hc Ai [D] ⟨sx.go, sx.nd, sx.rt, sx.th, sx.bth, rb⟩ ⟨D, S, n, rfl, rfl, hS, si, by rw [si.len]; exact hacc⟩
theorem snx_sc {elt tg iter : Expr} {ifs : List Expr} {scope : Scope} {own' : List (Str × Nat)} {own : List Nat} {pos : Pos} {tgi : Tg} {it : Ev.It} {cs : Tts} {e : E} (eo : own'.map (·.2) = own) (hc : X.calm = true) (hN : X.N.Nodup)
    (hi : PI X tg iter (tI X.K g it)) (ok : BlkOk X.N X.env.scope scope own') (hlen : ∀ i ∈ tgs tgi, i < X.N.length)
    (hg : ∀ (s : Shared) (H : Hp) (C : Addr) (cl : List (Str × Addr)) (fp : List Addr), PG (X.blk s H scope (compEnvC scope cl C X.env) fp) tg (gT X.K tgi))
    (ht : ∀ (s : Shared) (H : Hp) (C : Addr) (cl : List (Str × Addr)) (fp : List Addr), PTs (X.blk s H scope (compEnvC scope cl C X.env) fp) ifs (tTs X.K g.mute cs))
    (he : ∀ (s : Shared) (H : Hp) (C : Addr) (cl : List (Str × Addr)) (fp : List Addr), PE (X.blk s H scope (compEnvC scope cl C X.env) fp) elt (tE X.K g.mute e)) (hs : ∀ x, foldedSetIterable iter X.env x = pure x) :
    PE X (.SetComp elt [⟨tg, iter, ifs, 0⟩] scope pos) (tX X.K X.w g own tgi it cs e) := by
  subst eo
  refine ⟨fun pins s σ H Q I h => (pe_sg (fun H h => txO_nil H h) (fun Y e1 e2 => ?_) hc hN hi ok hg ht he hs).run pins s σ H Q I (sx_ev hlen I.len h)⟩
  rw [← e2]
  exact mt_txadd
theorem nodup_perm {l m : List Str} (hl : l.Nodup) (hm : m.Nodup) (h : ∀ j, j ∈ l ↔ j ∈ m) : l.Perm m := by
  rw [List.perm_iff_count]
  intro j
  have h1 := List.nodup_iff_count.mp hl j
  have h2 := List.nodup_iff_count.mp hm j
  by_cases d : j ∈ l
  · have := List.count_pos_iff.mpr d
    have := List.count_pos_iff.mpr ((h j).mp d)
    omega
  · rw [List.count_eq_zero.mpr d, List.count_eq_zero.mpr fun z => d ((h j).mpr z)]
theorem own_strs {K : PySem.W.Frag} {H : Hp} {av : Addr → Prop} : ∀ ks : List Str, OwnL K H av (ks.map fun x => W.val (.str x)) (ks.map V.str) []
  | [] => ⟨rfl, rfl⟩
  | k :: ks => ⟨_, _, [], [], rfl, rfl, ⟨rfl, rfl⟩, own_strs ks⟩
/-- sorted({..}) of texts -/
theorem snd_srtX {x : Str} {a : Expr} {pos p0 : Pos} {own : List Nat} {tg : Tg} {it : Ev.It} {cs : Tts} {e : E} (hx : x = "sorted") (hc : X.calm = true) (hg : Gl X x) (hm : X.mg x = none) (ha : PE X a (tX X.K X.w g own tg it cs e)) (hs : starEach [a] X.env = (false, eval a X.env) :: starEach [] X.env) : PE X (.Call (.Name x p0) [a] [] pos) (tE X.K g (.srtX own tg it cs e)) := by
  subst hx
  refine PE.imp (pe_callB (t := tCons (tX X.K X.w g own tg it cs e) tNil) (cr_txsorted hc) hg hm rfl (pa_cons ha pa_nil hs) (by decide) (by decide) hs rfl) fun σ H Q ⟨Rt, env, A, rl, p⟩ => ?_
  rw [evE_srtX] at p
  refine ⟨Rt, env, A, rl, Post.seq p fun is e1 v H1 A1 B1 s1 o1 p1 => ?_⟩
  obtain ⟨q, S, n, rfl, rfl, hq, si, hn⟩ := o1
  refine ⟨q, S, n, rfl, hq, fun ys p hs hn' hm hl hp => ?_⟩
  have ey : ys = sortS is := sortS_uniq (nodup_perm hn' si.nd fun j => (hm j).trans (si.mem j)) hs
  subst ey
  exact p1 (.ref p) _ A1 [p] (s1.drop0.new hp) ⟨p, _, [], rfl, rfl, upd_same, own_strs _⟩
end
end Ev
/-! Ev27: list comprehensions of two clauses. -/
namespace Ev
open PySem L2
section
variable {X : Cx} {g : Cfg}
/-- the loop of a comprehension from anywhere -/
theorem lc_loop {own : List Nat} {tgi : Tg} {cs : Tts} {e : E} {σ : St} {H H1 Hs : Hp} {A A1 As Bs : List Addr} {Rt : Addr → Prop} {es envF : Env} {acc0 wsF : List W} {D : Addr} {ts : List T} {J : L2.It} {P : Hp → (Addr → Prop) → Prop} {Nx : Hp → Prop} (hlen : ∀ i ∈ tgs tgi, i < X.N.length) (hσ : σ.length = X.N.length) (jt : Jt X.K J ts P) (hD : H1 D = none)
    (st : Sx X.K Rt σ H A Hs es As (D :: Bs)) (ow0 : Own X.K Hs (Av (As ++ (D :: Bs)) Rt) (.lst acc0) (.ref D) (D :: Bs)) (pP : P Hs (Av (As ++ (D :: Bs)) Rt)) (go0 : Go A1 H1 (As ++ (D :: Bs)) Hs) (hid : hidOk es own = true) (tin : tgIn tgi own = true)
    (el : lcL tgi own (evTs g.G g.C cs) (evE g.G g.C e) ts acc0 (wipeE es own) = .ok wsF envF)
    (fin : ∀ Hc Ai B, Sx X.K Rt (L2.wipe σ own) H A Hc envF Ai (D :: B) → Own X.K Hc (Av (Ai ++ (D :: B)) Rt) (.lst wsF) (.ref D) (D :: B) → P Hc (Av (Ai ++ (D :: B)) Rt) → Go A1 H1 (Ai ++ (D :: B)) Hc → Nx Hc) :
    ∃ W : Nat → Nat → Hp → Prop, (∃ m, W 0 m Hs) ∧ ∀ i m H, W i m H → (J.stop i H ∧ Nx H) ∨ (J.go i H ∧ ∃ Nx1 : Hp → Prop, (∀ H', Nx1 H' → ∃ m', m' < m ∧ W (i + 1) m' H') ∧ ∀ x H', J.yld i H x H' → gT X.K tgi x (L2.wipe σ own) H' fun σ2 H2 => L2.wipe σ2 own = L2.wipe σ own ∧ tTs X.K g.mute cs σ2 H2 fun b H3 =>
      if b = true then tE X.K g.mute e σ2 H3 fun y H4 => ∃ acc, H4 D = some (.lst acc) ∧ acc.length < sizeLine ∧ Nx1 (upd H4 D (.lst (acc ++ [y]))) else Nx1 H3) := by
  have bare := hidOk_of hid
  have tgin : ∀ i ∈ tgs tgi, i ∈ own := fun i hi => by
    cases tgi with
    | var k =>
      rcases List.mem_cons.mp hi with rfl | z
      · exact List.contains_iff_mem.mp tin
      · cases z
    | tup is => exact List.contains_iff_mem.mp (List.all_eq_true.mp tin i hi)
  refine ⟨fun i m Hc => m = ts.length - i ∧ i ≤ ts.length ∧ ∃ envi Ai acc B, lcL tgi own (evTs g.G g.C cs) (evE g.G g.C e) (ts.drop i) acc envi = .ok wsF envF ∧ Sx X.K Rt (L2.wipe σ own) H A Hc envi Ai (D :: B) ∧
      Own X.K Hc (Av (Ai ++ (D :: B)) Rt) (.lst acc) (.ref D) (D :: B) ∧ P Hc (Av (Ai ++ (D :: B)) Rt) ∧ Go A1 H1 (Ai ++ (D :: B)) Hc ∧ ∀ j ∈ own, envi[j]? = some none, ⟨ts.length, ?_⟩, ?_⟩
  · exact ⟨by simp, Nat.zero_le _, wipeE es own, As, acc0, Bs, by simpa using el, ⟨st.go, st.nd, st.rt, st.th, st.bth, RE.wipe own bare st.re⟩, ow0, pP, go0, fun j hj => wipeE_none own j hj (bare j hj).lt⟩
  · rintro i m Hc ⟨rfl, hile, envi, Ai, acc, B, eL, sx, ow, pH, go, nones⟩
    by_cases hlt : i < ts.length
    · have et : ts.drop i = ts[i] :: ts.drop (i + 1) := List.drop_eq_getElem_cons hlt
      have gi : ts[i]? = some ts[i] := List.getElem?_eq_getElem hlt
      rw [et] at eL
      have eL0 : (match tgE tgi ts[i] envi with
        | none => R.no
        | some env1 => (evTs g.G g.C cs env1).bind fun b env2 => match b with
          | true => (evE g.G g.C e env2).bind fun w env3 => if (decide (acc.length < 16777216) && hidOk env3 own) = true then lcL tgi own (evTs g.G g.C cs) (evE g.G g.C e) (ts.drop (i + 1)) (acc ++ [w]) (wipeE env3 own) else .no
          | false => if hidOk env2 own = true then lcL tgi own (evTs g.G g.C cs) (evE g.G g.C e) (ts.drop (i + 1)) acc (wipeE env2 own) else .no) = .ok wsF envF := eL
      cases etg : tgE tgi ts[i] envi with
      | none => rw [etg] at eL0; cases eL0
      | some env1 =>
      rw [etg] at eL0
      obtain ⟨b, env2, eb, eL1⟩ := bind_ok eL0
      refine .inr ⟨jt.go Hc _ i _ pH gi, fun Hn => ∃ envi Ai acc B, lcL tgi own (evTs g.G g.C cs) (evE g.G g.C e) (ts.drop (i + 1)) acc envi = .ok wsF envF ∧ Sx X.K Rt (L2.wipe σ own) H A Hn envi Ai (D :: B) ∧
        Own X.K Hn (Av (Ai ++ (D :: B)) Rt) (.lst acc) (.ref D) (D :: B) ∧ P Hn (Av (Ai ++ (D :: B)) Rt) ∧ Go A1 H1 (Ai ++ (D :: B)) Hn ∧ ∀ j ∈ own, envi[j]? = some none, fun Hn w => ⟨ts.length - (i + 1), by omega, rfl, hlt, w⟩, fun x Hy y => ?_⟩
      obtain ⟨ext, fx⟩ := jt.yld Hc _ i _ x Hy pH gi y
      have sx1 := sx.ext ext
      have ow1 : Own X.K Hy (Av (Ai ++ (D :: B)) Rt) (.lst acc) (.ref D) (D :: B) := Own.mono _ _ _ (fun b o q _ => ext b o q) (fun b xs q => Rd.mono q fun o q => ext b o q) (fun b z => .inl z) ow
      have pH1 : P Hy (Av (Ai ++ (D :: B)) Rt) := jt.mono _ _ _ _ pH (fun b o q _ => ext b o q) (fun b xs q => Rd.mono q fun o q => ext b o q) (fun b z => .inl z)
      have go1 : Go A1 H1 (Ai ++ (D :: B)) Hy := ⟨fun b o q n => ext b o (go.keep b o q n), fun b xs q => Rd.mono (go.tups b xs q) fun o q => ext b o q, go.new⟩
      have elen : envi.length = X.N.length := by rw [RE.len _ _ _ sx.re, wipe_length, hσ]
      have fx1 : Fz X.K Hy (Av Ai (RtB (D :: B) Rt)) ts[i] x := Fz.mono (fun _ _ q _ => q) (fun _ _ q => q) (fun b z => .inl (by
        rcases z with z | z | z
        · exact .inl (List.mem_append_left _ z)
        · exact .inl (List.mem_append_right _ z)
        · exact .inr z)) _ _ fx
      refine tg_ok tgi (fun j hj => by rw [elen]; exact hlen j hj) sx1.rl fx1 etg fun σ2 A2 sub rl2 kσ => ?_
      have l2 : σ2.length = σ.length := by
        rw [← RE.len _ _ _ rl2.re, tgE_len etg, elen, hσ]
      have weq : L2.wipe σ2 own = L2.wipe σ own := by
        refine wipe_eq l2 fun j hj => ?_
        rw [kσ j (fun z => hj (tgin j z)), wipe_out hj]
      refine ⟨weq, RtB (D :: B) Rt, env1, A2, rl2, ?_⟩
      have sxT : Sx X.K Rt σ2 H A Hy env1 A2 (D :: B) := sx1.retg rl2 sub
      have suba : ∀ b, Av (A2 ++ (D :: B)) Rt b → Av (Ai ++ (D :: B)) Rt b := fun b z => by
        rcases z with z | z
        · rcases List.mem_append.mp z with z | z
          · exact .inl (List.mem_append_left _ (sub b z))
          · exact .inl (List.mem_append_right _ z)
        · exact .inr z
      have owT : Own X.K Hy (Av (A2 ++ (D :: B)) Rt) (.lst acc) (.ref D) (D :: B) := Own.mono _ _ _ (fun _ _ q _ => q) (fun _ _ q => q) (fun b z => .inl (suba b z)) ow1
      have pT : P Hy (Av (A2 ++ (D :: B)) Rt) := jt.mono _ _ _ _ pH1 (fun _ _ q _ => q) (fun _ _ q => q) (fun b z => .inl (suba b z))
      have goT : Go A1 H1 (A2 ++ (D :: B)) Hy := go1.sub fun b hb => by
        rcases List.mem_append.mp hb with z | z
        · exact List.mem_append_left _ (sub b z)
        · exact List.mem_append_right _ z
      show Post X.K g.mute PBl (RtB (D :: B) Rt) σ2 Hy A2 (evTs g.G g.C cs env1) _
      rw [eb]
      intro b' H3 A3 B3 s3 hb3
      obtain ⟨e3, e4⟩ := hb3
      subst e3 e4
      have s4 : Sx X.K Rt σ2 H A H3 env2 A3 (D :: B) := by
        have := sxT.next s3
        rw [List.append_nil] at this
        exact this
      have ow3 : Own X.K H3 (Av (A3 ++ (D :: B)) Rt) (.lst acc) (.ref D) (D :: B) := by
        have := sxT.own s3 owT
        rw [List.append_nil] at this
        exact this
      have p3 : P H3 (Av (A3 ++ (D :: B)) Rt) := by
        have := sxT.nextP jt s3 pT
        rw [List.append_nil] at this
        exact this
      have go3 : Go A1 H1 (A3 ++ (D :: B)) H3 := by
        have := goT.trans (show Go A2 Hy A3 H3 from s3.go.sub fun b hb => List.mem_append_left _ hb)
        exact this
      cases b' with
      | false =>
        have eL2 : (if hidOk env2 own = true then lcL tgi own (evTs g.G g.C cs) (evE g.G g.C e) (ts.drop (i + 1)) acc (wipeE env2 own) else .no) = .ok wsF envF := eL1
        by_cases c : hidOk env2 own = true
        · rw [if_pos c] at eL2
          have b2 := hidOk_of c
          have rw2 := RE.wipe own b2 s4.re
          rw [weq] at rw2
          exact ⟨wipeE env2 own, A3, acc, B, eL2, ⟨s4.go, s4.nd, s4.rt, s4.th, s4.bth, rw2⟩, ow3, p3, go3, fun j hj => wipeE_none own j hj (b2 j hj).lt⟩
        · rw [if_neg c] at eL2; cases eL2
      | true =>
        obtain ⟨w, env3, ew, eL2⟩ := bind_ok (show ((evE g.G g.C e env2).bind fun w env3 => if (decide (acc.length < 16777216) && hidOk env3 own) = true then lcL tgi own (evTs g.G g.C cs) (evE g.G g.C e) (ts.drop (i + 1)) (acc ++ [w]) (wipeE env3 own) else .no) = .ok wsF envF from eL1)
        refine ⟨RtB (D :: B) Rt, env2, A3, s4.rl, ?_⟩
        show Post X.K g.mute (PO1 X.K) (RtB (D :: B) Rt) σ2 H3 A3 (evE g.G g.C e env2) _
        rw [ew]
        intro yv H4 A4 B4 s5 o5
        have s6 : Sx X.K Rt σ2 H A H4 env3 A4 (D :: (B ++ B4)) := s4.next s5
        have ow4 : Own X.K H4 (Av (A4 ++ (D :: (B ++ B4))) Rt) (.lst acc) (.ref D) (D :: B) := s4.own s5 ow3
        have o6 : Own X.K H4 (Av (A4 ++ (D :: (B ++ B4))) Rt) w yv B4 := Sx.own2 (B1 := D :: B) o5
        have p4 : P H4 (Av (A4 ++ (D :: (B ++ B4))) Rt) := s4.nextP jt s5 p3
        have go4 : Go A1 H1 (A4 ++ (D :: (B ++ B4))) H4 := (go3.trans s5.go).sub fun b hb => by
          rcases List.mem_append.mp hb with z | z
          · exact List.mem_append_left _ (List.mem_append_left _ z)
          · rcases List.mem_cons.mp z with rfl | z
            · exact List.mem_append_right _ List.mem_cons_self
            · rcases List.mem_append.mp z with z | z
              · exact List.mem_append_right _ (List.mem_cons_of_mem _ z)
              · exact List.mem_append_left _ (List.mem_append_right _ z)
        by_cases c : (decide (acc.length < 16777216) && hidOk env3 own) = true
        · rw [if_pos c] at eL2
          rw [Bool.and_eq_true] at c
          have nD : D ∉ B ++ B4 := (List.nodup_cons.mp (List.nodup_append.mp s6.nd).2.1).1
          have aD : Av (A4 ++ (D :: (B ++ B4))) Rt D := .inl (List.mem_append_right _ List.mem_cons_self)
          obtain ⟨xs, hxs, hxl, owN⟩ := Own.push ow4 o6 nD aD
          have lD : ∀ xs', ¬ Rd H4 D (.tup xs') := fun xs' z => by rcases z with z | ⟨o, z⟩ <;> (rw [hxs] at z; cases z)
          have s7 := s6.wr (o := .lst (xs ++ [yv])) List.mem_cons_self lD
          have b2 := hidOk_of c.2
          have rw2 := RE.wipe own b2 s7.re
          rw [weq] at rw2
          refine ⟨xs, hxs, by rw [sizeLine_eq, hxl]; exact of_decide_eq_true c.1, wipeE env3 own, A4, acc ++ [w], B ++ B4, eL2, ⟨s7.go, s7.nd, s7.rt, s7.th, s7.bth, rw2⟩, owN, ?_, ?_, fun j hj => wipeE_none own j hj (b2 j hj).lt⟩
          · refine jt.mono _ _ _ _ p4 (fun b o q n => ?_) (fun b xs' q => ?_) (fun b z => .inl z)
            · rw [upd_ne (fun z => n (by rw [z]; exact aD))]; exact q
            · have ne : b ≠ D := fun z => by subst z; exact lD xs' q
              exact Rd.mono q fun u q => by rw [upd_ne ne]; exact q
          · refine ⟨fun b o q n => ?_, fun b xs' q => ?_, go4.new⟩
            · have q4 := go4.keep b o q n
              have ne : b ≠ D := fun z => by
                subst z
                rw [hD] at q; cases q
              rw [upd_ne ne]; exact q4
            · have q4 := go4.tups b xs' q
              have ne : b ≠ D := fun z => by subst z; exact lD xs' q4
              exact Rd.mono q4 fun u q => by rw [upd_ne ne]; exact q
        · rw [if_neg c] at eL2; cases eL2
    · -- the end
      have ei : i = ts.length := by omega
      subst ei
      rw [List.drop_length] at eL
      cases (show R.ok acc envi = R.ok wsF envF from eL)
      exact .inl ⟨jt.stop Hc _ _ pH (Nat.le_refl _), fin Hc Ai B sx ow pH go⟩
/-- the inner clause -/
def inn2 (g : Cfg) (own2 : List Nat) (tg2 : Tg) (it2 : Ev.It) (e : E) : List W → Env → R (List W) := fun acc env2 => (evI g.G g.C it2 env2).bind fun us env3 => if hidOk env3 own2 = true then lcL tg2 own2 (evTs g.G g.C .nil) (evE g.G g.C e) us acc (wipeE env3 own2) else .no
theorem lc2_ev {own own2 : List Nat} {tgi tg2 : Tg} {it it2 : Ev.It} {e : E} {σ : St} {H : Hp} {Q : VK} (hlen : ∀ i ∈ tgs tgi, i < X.N.length) (hlen2 : ∀ i ∈ tgs tg2, i < X.N.length) (hσ : σ.length = X.N.length) (h : tE X.K g (.lc2 own own2 tgi it tg2 it2 e) σ H Q) :
    tLc2 (tI X.K g it) (gT X.K tgi) (tTs X.K g.mute .nil) (tI X.K g.mute it2) (gT X.K tg2) (tTs X.K g.mute .nil) (tE X.K g.mute e) own own2 σ H Q := by
  obtain ⟨Rt, env, A, rl, p⟩ := h
  have hel : env.length = X.N.length := by rw [RE.len _ _ _ rl.re, hσ]
  refine ⟨Rt, env, A, rl, Post.seqE p fun ts e1 J H1 A1 B1 er s1 o1 p1 => ?_⟩
  obtain ⟨rfl, P, jt, pP⟩ := o1
  intro D hD
  have p2 : Post X.K g (PO1 X.K) Rt σ H A (if (hidOk e1 own && (tgIn tgi own && (tgIn tg2 own2 && own2.all own.contains))) = true then (match lc2L tgi own (inn2 g own2 tg2 it2 e) ts [] (wipeE e1 own) with
    | .ok ws env2 => .ok (.lst ws) (backE e1 env2 own)
    | _ => .no) else .no) Q := p1
  have c0 : (hidOk e1 own && (tgIn tgi own && (tgIn tg2 own2 && own2.all own.contains))) = true := by
    by_cases c : (hidOk e1 own && (tgIn tgi own && (tgIn tg2 own2 && own2.all own.contains))) = true
    · exact c
    · rw [if_neg c] at p2; exact p2.elim
  rw [if_pos c0] at p2
  rw [Bool.and_eq_true, Bool.and_eq_true, Bool.and_eq_true] at c0
  obtain ⟨hid, tin, tin2, osub⟩ := c0
  have osub : ∀ j ∈ own2, j ∈ own := fun j hj => List.contains_iff_mem.mp (List.all_eq_true.mp osub j hj)
  have bare := hidOk_of hid
  cases el : lc2L tgi own (inn2 g own2 tg2 it2 e) ts [] (wipeE e1 own) with
  | exc _ _ _ => rw [el] at p2; exact p2.elim
  | no => rw [el] at p2; exact p2.elim
  | ok wsF envF =>
  rw [el] at p2
  have re1 : RE X.K H1 (Av (A1 ++ []) Rt) e1 σ A1 := s1.re
  have len1 : e1.length = X.N.length := by rw [RE.len _ _ _ re1, hσ]
  -- the old values of the own slots, wherever what was frozen stands
  have olds : ∀ (Hc : Hp) (A' : List Addr), Go A1 H1 A' Hc → ∀ j ∈ own, e1[j]? = some none ∨ ∃ t v, e1[j]? = some (some (.val t)) ∧ σ[j]? = some (some v) ∧ Fz X.K Hc (Av A' Rt) t v := fun Hc A' go j hj => by
    rcases bare j hj with z | ⟨t, z⟩
    · exact .inl z
    · obtain ⟨_, _, _, _, _, hw, _⟩ := RE.slot e1 σ A1 j re1 (List.getElem?_eq_some_iff.mp z).1
      obtain ⟨v, ev, ow⟩ := hw _ z
      refine .inr ⟨t, v, z, ev, Fz.mono (fun b o q n => go.keep b o q fun z => n (.inl (List.mem_append_left _ z))) go.tups (fun b z => ?_) t v ow.2⟩
      rcases z with z | z
      · exact (go.new b z).imp (fun z => .inl (List.mem_append_left _ z)) id
      · exact .inl (.inr z)
  have tgin : ∀ i ∈ tgs tgi, i ∈ own := fun i hi => by
    cases tgi with
    | var k =>
      rcases List.mem_cons.mp hi with rfl | z
      · exact List.contains_iff_mem.mp tin
      · cases z
    | tup is => exact List.contains_iff_mem.mp (List.all_eq_true.mp tin i hi)
  refine ⟨fun i m Hc => m = ts.length - i ∧ i ≤ ts.length ∧ ∃ envi Ai acc B, lc2L tgi own (inn2 g own2 tg2 it2 e) (ts.drop i) acc envi = .ok wsF envF ∧ Sx X.K Rt (L2.wipe σ own) H A Hc envi Ai (D :: B) ∧
      Own X.K Hc (Av (Ai ++ (D :: B)) Rt) (.lst acc) (.ref D) (D :: B) ∧ P Hc (Av (Ai ++ (D :: B)) Rt) ∧ Go A1 H1 (Ai ++ (D :: B)) Hc ∧ ∀ j ∈ own, envi[j]? = some none, ⟨ts.length, ?_⟩, ?_⟩
  · -- the start
    have s2 : Sx X.K Rt σ H A (upd H1 D (.lst [])) e1 A1 [D] := s1.new hD
    refine ⟨by simp, Nat.zero_le _, wipeE e1 own, A1, [], [], by simpa using el, ⟨s2.go, s2.nd, s2.rt, s2.th, s2.bth, RE.wipe own bare s2.re⟩, ⟨D, [], [], rfl, rfl, upd_same, rfl, rfl⟩, ?_, ?_, fun j hj => wipeE_none own j hj (bare j hj).lt⟩
    · exact jt.mono _ _ _ _ pP (fun b o q _ => newkeep hD b o q) (newtups hD) (Sx.newav hD)
    · exact ((Go.refl (A := A1) (H := H1)).upd hD).sub fun b hb => by
        rcases List.mem_append.mp hb with z | z
        · exact List.mem_cons_of_mem _ z
        · rcases List.mem_cons.mp z with rfl | z
          · exact List.mem_cons_self
          · cases z
  · rintro i m Hc ⟨rfl, hile, envi, Ai, acc, B, eL, sx, ow, pH, go, nones⟩
    by_cases hlt : i < ts.length
    · have et : ts.drop i = ts[i] :: ts.drop (i + 1) := List.drop_eq_getElem_cons hlt
      have gi : ts[i]? = some ts[i] := List.getElem?_eq_getElem hlt
      rw [et] at eL
      have eL0 : (match tgE tgi ts[i] envi with
        | none => R.no
        | some env1 => (inn2 g own2 tg2 it2 e acc env1).bind fun acc2 env2 => if hidOk env2 own = true then lc2L tgi own (inn2 g own2 tg2 it2 e) (ts.drop (i + 1)) acc2 (wipeE env2 own) else .no) = .ok wsF envF := eL
      cases etg : tgE tgi ts[i] envi with
      | none => rw [etg] at eL0; cases eL0
      | some env1 =>
      rw [etg] at eL0
      obtain ⟨acc2, env2, eb, eL1⟩ := bind_ok eL0
      obtain ⟨us, env3, eu, eL2⟩ := bind_ok (show ((evI g.G g.C it2 env1).bind fun us env3 => if hidOk env3 own2 = true then lcL tg2 own2 (evTs g.G g.C .nil) (evE g.G g.C e) us acc (wipeE env3 own2) else .no) = .ok acc2 env2 from eb)
      have hid2 : hidOk env3 own2 = true := by
        by_cases c : hidOk env3 own2 = true
        · exact c
        · rw [if_neg c] at eL2; cases eL2
      rw [if_pos hid2] at eL2
      have hid3 : hidOk env2 own = true := by
        by_cases c : hidOk env2 own = true
        · exact c
        · rw [if_neg c] at eL1; cases eL1
      rw [if_pos hid3] at eL1
      refine .inr ⟨jt.go Hc _ i _ pH gi, fun Hn => ∃ envi Ai acc B, lc2L tgi own (inn2 g own2 tg2 it2 e) (ts.drop (i + 1)) acc envi = .ok wsF envF ∧ Sx X.K Rt (L2.wipe σ own) H A Hn envi Ai (D :: B) ∧
      Own X.K Hn (Av (Ai ++ (D :: B)) Rt) (.lst acc) (.ref D) (D :: B) ∧ P Hn (Av (Ai ++ (D :: B)) Rt) ∧ Go A1 H1 (Ai ++ (D :: B)) Hn ∧ ∀ j ∈ own, envi[j]? = some none, fun Hn w => ⟨ts.length - (i + 1), by omega, rfl, hlt, w⟩, fun x Hy y => ?_⟩
      obtain ⟨ext, fx⟩ := jt.yld Hc _ i _ x Hy pH gi y
      have sx1 := sx.ext ext
      have ow1 : Own X.K Hy (Av (Ai ++ (D :: B)) Rt) (.lst acc) (.ref D) (D :: B) := Own.mono _ _ _ (fun b o q _ => ext b o q) (fun b xs q => Rd.mono q fun o q => ext b o q) (fun b z => .inl z) ow
      have pH1 : P Hy (Av (Ai ++ (D :: B)) Rt) := jt.mono _ _ _ _ pH (fun b o q _ => ext b o q) (fun b xs q => Rd.mono q fun o q => ext b o q) (fun b z => .inl z)
      have go1 : Go A1 H1 (Ai ++ (D :: B)) Hy := ⟨fun b o q n => ext b o (go.keep b o q n), fun b xs q => Rd.mono (go.tups b xs q) fun o q => ext b o q, go.new⟩
      have elen : envi.length = X.N.length := by rw [RE.len _ _ _ sx.re, wipe_length, hσ]
      have fx1 : Fz X.K Hy (Av Ai (RtB (D :: B) Rt)) ts[i] x := Fz.mono (fun _ _ q _ => q) (fun _ _ q => q) (fun b z => .inl (by
        rcases z with z | z | z
        · exact .inl (List.mem_append_left _ z)
        · exact .inl (List.mem_append_right _ z)
        · exact .inr z)) _ _ fx
      refine tg_ok tgi (fun j hj => by rw [elen]; exact hlen j hj) sx1.rl fx1 etg fun σ2 A2 sub rl2 kσ => ?_
      have l2 : σ2.length = σ.length := by
        rw [← RE.len _ _ _ rl2.re, tgE_len etg, elen, hσ]
      have weq : L2.wipe σ2 own = L2.wipe σ own := by
        refine wipe_eq l2 fun j hj => ?_
        rw [kσ j (fun z => hj (tgin j z)), wipe_out hj]
      refine ⟨weq, RtB (D :: B) Rt, env1, A2, rl2, ?_⟩
      have sxT : Sx X.K Rt σ2 H A Hy env1 A2 (D :: B) := sx1.retg rl2 sub
      have suba : ∀ b, Av (A2 ++ (D :: B)) Rt b → Av (Ai ++ (D :: B)) Rt b := fun b z => by
        rcases z with z | z
        · rcases List.mem_append.mp z with z | z
          · exact .inl (List.mem_append_left _ (sub b z))
          · exact .inl (List.mem_append_right _ z)
        · exact .inr z
      have owT : Own X.K Hy (Av (A2 ++ (D :: B)) Rt) (.lst acc) (.ref D) (D :: B) := Own.mono _ _ _ (fun _ _ q _ => q) (fun _ _ q => q) (fun b z => .inl (suba b z)) ow1
      have pT : P Hy (Av (A2 ++ (D :: B)) Rt) := jt.mono _ _ _ _ pH1 (fun _ _ q _ => q) (fun _ _ q => q) (fun b z => .inl (suba b z))
      have goT : Go A1 H1 (A2 ++ (D :: B)) Hy := go1.sub fun b hb => by
        rcases List.mem_append.mp hb with z | z
        · exact List.mem_append_left _ (sub b z)
        · exact List.mem_append_right _ z
      show Post X.K g.mute PBl (RtB (D :: B) Rt) σ2 Hy A2 (.ok true env1) _
      intro b' H3 A3 B3 s3 hb3
      obtain ⟨e3, e4⟩ := hb3
      subst e3 e4
      have s4 : Sx X.K Rt σ2 H A H3 env1 A3 (D :: B) := by
        have := sxT.next s3
        rw [List.append_nil] at this
        exact this
      have ow3 : Own X.K H3 (Av (A3 ++ (D :: B)) Rt) (.lst acc) (.ref D) (D :: B) := by
        have := sxT.own s3 owT
        rw [List.append_nil] at this
        exact this
      have p3 : P H3 (Av (A3 ++ (D :: B)) Rt) := by
        have := sxT.nextP jt s3 pT
        rw [List.append_nil] at this
        exact this
      have go3 : Go A1 H1 (A3 ++ (D :: B)) H3 := by
        have := goT.trans (show Go A2 Hy A3 H3 from s3.go.sub fun b hb => List.mem_append_left _ hb)
        exact this
      refine ⟨RtB (D :: B) Rt, env1, A3, s4.rl, ?_⟩
      show Post X.K g.mute (PJ X.K) (RtB (D :: B) Rt) σ2 H3 A3 (evI g.G g.C it2 env1) _
      rw [eu]
      intro J1 H4 A4 B4 s5 o5
      obtain ⟨rfl, P1, jt1, pP1⟩ := o5
      have s6 : Sx X.K Rt σ2 H A H4 env3 A4 (D :: B) := by
        have := s4.next s5
        rw [List.append_nil] at this
        exact this
      have ow4 : Own X.K H4 (Av (A4 ++ (D :: B)) Rt) (.lst acc) (.ref D) (D :: B) := by
        have := s4.own s5 ow3
        rw [List.append_nil] at this
        exact this
      have p4 : P H4 (Av (A4 ++ (D :: B)) Rt) := by
        have := s4.nextP jt s5 p3
        rw [List.append_nil] at this
        exact this
      have p5 : P1 H4 (Av (A4 ++ (D :: B)) Rt) := jt1.mono _ _ _ _ pP1 (fun _ _ q _ => q) (fun _ _ q => q) (fun b z => .inl (by
        rcases z with z | z
        · rcases List.mem_append.mp z with z | z
          · exact .inl (List.mem_append_left _ z)
          · exact .inr (.inl z)
        · exact .inr (.inr z)))
      have go4 : Go A1 H1 (A4 ++ (D :: B)) H4 := go3.trans (show Go A3 H3 A4 H4 from s5.go.sub fun b hb => List.mem_append_left _ hb)
      have jt2 : Jt X.K J1 us fun H av => P1 H av ∧ P H av := ⟨fun H H' av av' p k t h => ⟨jt1.mono H H' av av' p.1 k t h, jt.mono H H' av av' p.2 k t h⟩, fun H av i p => jt1.stop H av i p.1, fun H av i t p => jt1.go H av i t p.1, fun H av i t x H' p => jt1.yld H av i t x H' p.1⟩
      refine lc_loop (σ := σ2) (own := own2) (cs := .nil) hlen2 (by rw [l2, hσ]) jt2 hD s6 ow4 ⟨p5, p4⟩ go4 hid2 tin2 eL2 fun Hd Ad Bd sd od pd gd => ?_
      have b3 := hidOk_of hid3
      have rw3 := RE.wipe own b3 sd.re
      have w3 : L2.wipe (L2.wipe σ2 own2) own = L2.wipe σ own := by
        refine wipe_eq (by rw [wipe_length, l2]) fun j hj => ?_
        rw [wipe_out fun z => hj (osub j z), kσ j (fun z => hj (tgin j z)), wipe_out hj]
      rw [w3] at rw3
      exact ⟨wipeE env2 own, Ad, acc2, Bd, eL1, ⟨sd.go, sd.nd, sd.rt, sd.th, sd.bth, rw3⟩, od, pd.2, gd, fun j hj => wipeE_none own j hj (b3 j hj).lt⟩
    · -- the end
      have ei : i = ts.length := by omega
      subst ei
      rw [List.drop_length] at eL
      cases (show R.ok acc envi = R.ok wsF envF from eL)
      refine .inl ⟨jt.stop Hc _ _ pH (Nat.le_refl _), ?_⟩
      have rb := (RE.back own (fun j hj => .inl (nones j hj)) (olds Hc (Ai ++ (D :: B)) go) sx.re).1
      rw [backS_wipe] at rb
      exact p2 (.ref D) Hc Ai (D :: B) ⟨sx.go, sx.nd, sx.rt, sx.th, sx.bth, rb⟩ ow
theorem snd_lc2 {elt tg iter tg1 iter1 : Expr} {ifs ifs1 : List Expr} {scope : Scope} {own' : List (Str × Nat)} {own own2 : List Nat} {pos : Pos} {tgi tg2 : Tg} {it it2 : Ev.It} {e : E} (eo : own'.map (·.2) = own) (hv : ∀ i ∈ own2, i ∈ own'.map (·.2)) (hc : X.calm = true) (hN : X.N.Nodup)
    (hi : PI X tg iter (tI X.K g it)) (ok : BlkOk X.N X.env.scope scope own') (hlen : ∀ i ∈ tgs tgi, i < X.N.length) (hlen2 : ∀ i ∈ tgs tg2, i < X.N.length)
    (hg : ∀ (s : Shared) (H : Hp) (C : Addr) (cl : List (Str × Addr)) (fp : List Addr), PG (X.blk s H scope (compEnvC scope cl C X.env) fp) tg (gT X.K tgi))
    (ht : ∀ (s : Shared) (H : Hp) (C : Addr) (cl : List (Str × Addr)) (fp : List Addr), PTs (X.blk s H scope (compEnvC scope cl C X.env) fp) ifs (tTs X.K g.mute .nil))
    (hi1 : ∀ (s : Shared) (H : Hp) (C : Addr) (cl : List (Str × Addr)) (fp : List Addr), PI (X.blk s H scope (compEnvC scope cl C X.env) fp) tg1 iter1 (tI X.K g.mute it2))
    (hg1 : ∀ (s : Shared) (H : Hp) (C : Addr) (cl : List (Str × Addr)) (fp : List Addr), PG (X.blk s H scope (compEnvC scope cl C X.env) fp) tg1 (gT X.K tg2))
    (ht1 : ∀ (s : Shared) (H : Hp) (C : Addr) (cl : List (Str × Addr)) (fp : List Addr), PTs (X.blk s H scope (compEnvC scope cl C X.env) fp) ifs1 (tTs X.K g.mute .nil))
    (he : ∀ (s : Shared) (H : Hp) (C : Addr) (cl : List (Str × Addr)) (fp : List Addr), PE (X.blk s H scope (compEnvC scope cl C X.env) fp) elt (tE X.K g.mute e)) (hs : ∀ x, foldedSetIterable iter X.env x = pure x) (hs1 : ∀ env x, foldedSetIterable iter1 env x = pure x) :
    PE X (.ListComp elt [⟨tg, iter, ifs, 0⟩, ⟨tg1, iter1, ifs1, 0⟩] scope pos) (tE X.K g (.lc2 own own2 tgi it tg2 it2 e)) := by
  subst eo
  exact ⟨fun pins s σ H Q I h => (pe_lc2 hc hN hi ok hv hg ht hi1 hg1 ht1 he hs hs1).run pins s σ H Q I (lc2_ev hlen hlen2 I.len h)⟩
theorem sns_asgLc2 {ks : List Nat} {i : Nat} {x : Str} {pos' posc pos : Pos} {elt tg iter tg1 iter1 : Expr} {ifs ifs1 : List Expr} {scope : Scope} {own' : List (Str × Nat)} {own own2 : List Nat} {tgi tg2 : Tg} {it it2 : Ev.It} {e : E} (eo : own'.map (·.2) = own) (hv : ∀ i ∈ own2, i ∈ own'.map (·.2)) (hc : X.calm = true) (hN : X.N.Nodup)
    (hi : X.N[i]? = some x) (hyl : X.env.scope.names.lookup x = some .local) (hk : ks.contains i = false)
    (hsw : swapsWith (.ListComp elt [⟨tg, iter, ifs, 0⟩, ⟨tg1, iter1, ifs1, 0⟩] scope posc) (some (.Name x pos')) pos.line X.env = pure true)
    (hit : PI X tg iter (tI X.K g it)) (ok : BlkOk X.N X.env.scope scope own') (hlen : ∀ i ∈ tgs tgi, i < X.N.length) (hlen2 : ∀ i ∈ tgs tg2, i < X.N.length)
    (hg : ∀ (s : Shared) (H : Hp) (C : Addr) (cl : List (Str × Addr)) (fp : List Addr), PG (X.blk s H scope (compEnvC scope cl C X.env) fp) tg (gT X.K tgi))
    (ht : ∀ (s : Shared) (H : Hp) (C : Addr) (cl : List (Str × Addr)) (fp : List Addr), PTs (X.blk s H scope (compEnvC scope cl C X.env) fp) ifs (tTs X.K g.mute .nil))
    (hi1 : ∀ (s : Shared) (H : Hp) (C : Addr) (cl : List (Str × Addr)) (fp : List Addr), PI (X.blk s H scope (compEnvC scope cl C X.env) fp) tg1 iter1 (tI X.K g.mute it2))
    (hg1 : ∀ (s : Shared) (H : Hp) (C : Addr) (cl : List (Str × Addr)) (fp : List Addr), PG (X.blk s H scope (compEnvC scope cl C X.env) fp) tg1 (gT X.K tg2))
    (ht1 : ∀ (s : Shared) (H : Hp) (C : Addr) (cl : List (Str × Addr)) (fp : List Addr), PTs (X.blk s H scope (compEnvC scope cl C X.env) fp) ifs1 (tTs X.K g.mute .nil))
    (he : ∀ (s : Shared) (H : Hp) (C : Addr) (cl : List (Str × Addr)) (fp : List Addr), PE (X.blk s H scope (compEnvC scope cl C X.env) fp) elt (tE X.K g.mute e)) (hs : ∀ x, foldedSetIterable iter X.env x = pure x) (hs1 : ∀ env x, foldedSetIterable iter1 env x = pure x) :
    PS X (.Assign [.Name x pos'] (.ListComp elt [⟨tg, iter, ifs, 0⟩, ⟨tg1, iter1, ifs1, 0⟩] scope posc) pos) (tS X.K g ks (.asg i (.lc2 own own2 tgi it tg2 it2 e))) := by
  subst eo
  refine PS.imp (ps_setLc2 hc hN hi hyl hsw hit ok hv hg ht hi1 hg1 ht1 he hs hs1) fun D σ H hl ⟨Rt, env, A, rl, p⟩ => ?_
  refine lc2_ev (X := X) (Q := fun x H1 => gName i x σ H1 D.nx) hlen hlen2 hl ⟨Rt, env, A, rl, PostS.seq p fun w e1 v H1 A1 B1 s1 o1 p1 => ?_⟩
  have len : i < e1.length := by rw [RE.len _ _ _ s1.re, hl]; exact lt_N hi
  obtain ⟨A', s2⟩ := s1.put0 o1 len
  exact p1 _ H1 A' (Kp.set hk) s2
end
end Ev
/-! Ev28: calls with a dict of keywords. -/
namespace Ev
open PySem L2
section
variable {prog : Program} {w : World} {A : Around} {E : Value → Shared → Prop} {s : Shared} {K : Type} [DecidableEq K] {knd : KeyKind prog w K}
theorem put_new {D : Addr} {o : Obj} {es : Array DictEntry} {ep : Nat} {k : K} {key v : Value} {Q : Unit → Shared → Prop} (hkey : knd.is k key = true) (ho : s.heap.get? D = some o) (hd : o.data = .dict es ep) (hc : o.ExactDict) (hk : KeysOf knd es)
    (hn : (es.findIdx? fun e => knd.is k e.key) = none) (hz : es.size + 1 ≤ sizeLine)
    (hQ : ∀ h' o', h'.get? D = some o' → o'.ExactDict → o'.data = .dict (es.push ⟨knd.hash k, key, v⟩) (ep + 1) → Heap.SameBut D s.heap h' → Q () { s with heap := h' }) : wpAny (model prog w) A (dictPut D (knd.hash k) key v) Q E s := by
  unfold dictPut
  refine wpAny_bind (wpAny_dictFind_of hkey ho hd hk ?_)
  rw [hn]
  refine wpAny_updateDictKeys (hz := ?_) ho hd (hQ _ _ (Heap.get?_update_self _ ho (Obj.isFreed_of_dict (Obj.data_mapDictKeys hd _))) (hc.mapDictKeys _) (Obj.data_mapDictKeys hd _) (Heap.SameBut.update ..))
  exact Nat.le_of_succ_le hz
theorem merge_ok {a D : Addr} {oa : Obj} {es : Array DictEntry} {ep : Nat} {Q : Unit → Shared → Prop} (ha : s.heap.get? a = some oa) (hx : oa.ExactDict) (hda : oa.data = .dict es ep) (hka : KeysOf knd es) (nref : ∀ e ∈ es, ∀ b, e.key ≠ .ref b) (hs : (a == sysModules) = false) (hne : a ≠ D)
    (hD : s.heap.get? D = some { cls := .type "dict", data := .dict #[] }) (hz : es.size ≤ sizeLine) (dis : ∀ (i : Nat) (hi : i < es.size) (k : K), knd.is k es[i].key = true → ∀ (j : Nat) (hj : j < es.size), j < i → knd.is k es[j].key = false)
    (hQ : ∀ h' od n, h'.get? D = some od → od.data = .dict es n → Heap.SameBut D s.heap h' → Q () { s with heap := h' }) : wpAny (model prog w) A (mergeMapping D (.ref a) true) Q E s := by
  have hT : s.TypeIs (.ref a) "dict" := ⟨oa, ha, hx.1⟩
  unfold mergeMapping
  refine wpAny_bind (wpAny_isInstance (T := "dict") hT PySem.F.sub_dict_dict ?_)
  rw [if_pos rfl]
  refine wpAny_bind (wpAny_specialOf hT PySem.F.slot_dict_iter.lookup ?_)
  refine wpAny_bind (wpAny_pure ?_)
  rw [show (some (Value.builtin "dict.__iter__") == some (Value.builtin "dict.__iter__")) = true from by simp]
  dsimp only
  rw [if_neg (by rw [hs]; exact Bool.false_ne_true)]
  refine wpAny_bind (wpAny_dictEntries hD rfl ?_)
  rw [if_pos (by rfl)]
  refine wpAny_bind (wpAny_dictEntries ha hda ?_)
  refine wpAny_bind ?_
  rw [← Array.forIn_toList]
  refine wpAny_forIn_list _ (fun rest q s' => s' = s ∧ ∀ e ∈ rest, e ∈ es) _ ?_ ?_ _ _ ⟨rfl, fun e he => by simpa using he⟩
  · rintro e rest q s' ⟨rfl, hm⟩
    have hr := nref e (hm e List.mem_cons_self)
    cases hk : e.key with
    | ref b => exact absurd hk (hr b)
    | _ => exact wpAny_pure ⟨rfl, fun e he => hm e (List.mem_cons_of_mem _ he)⟩
  · rintro q s' ⟨rfl, _⟩
    refine wpAny_bind (wpAny_dictEntries ha hda (wpAny_bind (wpAny_dictEpoch ha hda (wpAny_bind ?_))))
    refine wpAny_forIn_list _ (fun rest q s1 => ∃ i h od n, s1 = { s' with heap := h } ∧ rest = List.range' i (es.size - i) ∧ i ≤ es.size ∧ h.get? D = some od ∧ od.ExactDict ∧ od.data = .dict (es.extract 0 i) n ∧ Heap.SameBut D s'.heap h) _ ?_ ?_ _ _
      ⟨0, s'.heap, _, 0, rfl, by rw [List.range_eq_range', Nat.sub_zero], Nat.zero_le _, hD, ⟨rfl, rfl, rfl⟩, by simp, ⟨rfl, fun _ _ => rfl⟩⟩
    · rintro x rest q s1 ⟨i, h, od, n, rfl, hr, hi, hod, hex, hdd, sb⟩
      have hlt : i < es.size := by
        rcases Nat.lt_or_ge i es.size with h | h
        · exact h
        · rw [Nat.sub_eq_zero_of_le h] at hr; simp at hr
      obtain ⟨rfl, hrest⟩ : x = i ∧ rest = List.range' (i + 1) (es.size - (i + 1)) := by
        have e : es.size - i = (es.size - (i + 1)) + 1 := by omega
        rw [e, List.range'_succ] at hr
        injection hr with h1 h2
        exact ⟨h1, h2⟩
      have ha1 : h.get? a = some oa := (sb.2 a hne).trans ha
      refine wpAny_bind (wpAny_dictEntries (s := { s' with heap := h }) ha1 hda ?_)
      rw [Array.getElem?_eq_getElem hlt]
      dsimp only
      obtain ⟨k, hkey, hh⟩ := hka es[x] (Array.getElem_mem hlt)
      have hke : KeysOf knd (es.extract 0 x) := fun e he => by
        obtain ⟨j, hj, rfl⟩ := Array.mem_iff_getElem.mp he
        rw [Array.getElem_extract]
        exact hka _ (Array.getElem_mem _)
      have hnf : ((es.extract 0 x).findIdx? fun e => knd.is k e.key) = none := by
        rw [Array.findIdx?_eq_none_iff]
        intro e he
        obtain ⟨j, hj, rfl⟩ := Array.mem_iff_getElem.mp he
        rw [Array.getElem_extract]
        have hj2 : j < x := by
          simp only [Array.size_extract] at hj
          omega
        exact dis x hlt k hkey _ (by omega) (by omega)
      rw [hh, if_pos rfl]
      refine wpAny_bind (wpAny_holding (wpAny_bind (wpAny_dictFind_of (s := { s' with heap := h }) hkey hod hdd hke ?_)))
      rw [hnf]
      refine put_new (s := { s' with heap := h }) hkey hod hdd hex hke hnf (by
        have : (es.extract 0 x).size = x := by simp; omega
        omega) fun h2 o2 g1 g2 g3 sb2 => ?_
      have ha2 : h2.get? a = some oa := (sb2.2 a hne).trans ha1
      refine wpAny_bind (wpAny_dictEpoch (s := { s' with heap := h2 }) ha2 hda ?_)
      rw [if_neg (by simp)]
      refine wpAny_pure ⟨x + 1, h2, o2, n + 1, rfl, hrest, hlt, g1, g2, ?_, ⟨sb2.1.trans sb.1, fun b hb => (sb2.2 b hb).trans (sb.2 b hb)⟩⟩
      rw [g3, Array.extract_succ_right (by omega) hlt]
      congr 2
      rw [← hh]
    · rintro q s1 ⟨i, h, od, n, rfl, hr, hi, hod, hex, hdd, sb⟩
      have hin : i = es.size := by
        rcases Nat.lt_or_ge i es.size with h | h
        · have e : es.size - i = (es.size - (i + 1)) + 1 := by omega
          rw [e, List.range'_succ] at hr; exact nomatch hr
        · exact Nat.le_antisymm hi h
      subst hin
      refine wpAny_pure (hQ h od n hod ?_ sb)
      rw [hdd]
      simp
end
end Ev
/-! Ev29: C(x, **d). -/
namespace Ev
open PySem L2
/-- the keywords that a dict's entries tell -/
def kwOf : List DictEntry → List (Str × Value)
  | [] => []
  | e :: r => (match e.key with | .str x _ => [(x, e.val)] | _ => []) ++ kwOf r
section
variable {prog : Program} {w : World} {A : Around} {E : Value → Shared → Prop} {s : Shared} {K : Type} [DecidableEq K] {knd : KeyKind prog w K}
theorem kwIn_ok {f : Value} {D : Addr} {od : Obj} {es : Array DictEntry} {n : Nat} {Q : List (Str × Value) → Shared → Prop} (hD : s.heap.get? D = some od) (hd : od.data = .dict es n) (ht : ∀ e ∈ es, ∃ x tok, e.key = .str x tok) (h : Q (kwOf es.toList) s) : wpAny (model prog w) A (keywordsIn f D) Q E s := by
  unfold keywordsIn
  refine wpAny_bind (wpAny_dictEntries hD hd (wpAny_bind ?_))
  rw [← Array.forIn_toList]
  refine wpAny_forIn_list _ (fun rest q s' => s' = s ∧ q ++ kwOf rest = kwOf es.toList ∧ ∀ e ∈ rest, e ∈ es) _ ?_ ?_ _ _ ⟨rfl, by simp, fun e he => by simpa using he⟩
  · rintro e rest q s' ⟨rfl, hq, hm⟩
    obtain ⟨x, tok, hk⟩ := ht e (hm e List.mem_cons_self)
    dsimp only
    rw [hk]
    refine wpAny_pure ⟨rfl, ?_, fun e he => hm e (List.mem_cons_of_mem _ he)⟩
    rw [← hq]
    have e1 : kwOf (e :: rest) = (x, e.val) :: kwOf rest := by
      show (match e.key with | .str x _ => [(x, e.val)] | _ => []) ++ kwOf rest = _
      rw [hk]
      rfl
    rw [e1, List.append_assoc]
    rfl
  · rintro q s' ⟨rfl, hq, _⟩
    refine wpAny_pure ?_
    rw [show kwOf [] = [] from rfl, List.append_nil] at hq
    rw [hq]
    exact h
/-- a ** alone: x gives a dict -/
theorem merged_ok {f : Value} {x : Sem Value} {Q : Addr → Shared → Prop} (h : wpAny (model prog w) A x (fun v s1 => wpAny (model prog w) A (mergeMapping s.heap.objs.size v true) (fun _ s2 => Q s.heap.objs.size s2) (fun _ _ => False) s1) E { s with heap := s.heap.push { cls := .type "dict", data := .dict #[] } }) :
    wpAny (model prog w) A (mergedKeywords f [(none, x)]) Q E s := by
  unfold mergedKeywords
  refine wpAny_bind (wpAny_alloc (wpAny_bind (wpAny_holding ?_)))
  dsimp only
  refine wpAny_bind ?_
  rw [List.forIn_cons]
  refine wpAny_bind ?_
  dsimp only
  refine wpAny_bind (wpAny_of_eq (if_pos rfl) (wpAny_bind (wpAny_mono h (fun v s1 h1 => ?_) fun _ _ y => y)))
  refine wpAny_bind (wpAny_onRaise (wpAny_holding (wpAny_tryCatch (wpAny_onRaise (wpAny_mono h1 (fun u s2 q => ?_) fun _ _ z => z.elim)))))
  refine wpAny_pure ?_
  show wpAny _ _ (forIn [] _ _) _ _ _
  refine wpAny_pure ?_
  refine wpAny_of_eq (if_pos rfl) ?_
  first
  | exact wpAny_pure q
  | exact wpAny_pure (wpAny_pure q)
  | exact q
end
end Ev
/-! Ev30: calls with a ** keyword. -/
namespace Ev
open PySem L2
section
variable {prog : Program} {w : World} {A : Around} {E : Value → Shared → Prop} {s : Shared}
theorem evalArgs_dd {f : Value} {x y : Sem Value} {rest : List (Bool × Sem Value)} {Q : Args → Shared → Prop}
    (h : wpAny (model prog w) A (spliced ((false, x) :: rest)) (fun vs s1 => wpAny (model prog w) A (mergedKeywords f [(none, y)]) (fun D s2 => wpAny (model prog w) A (keywordsIn f D) (fun kw s3 => Q ⟨vs, kw⟩ s3) E s2) E s1) E s) : wpAny (model prog w) A (evalArgs f true ((false, x) :: rest) [(none, y)]) Q E s := by
  unfold evalArgs
  show wpAny _ A (spliced ((false, x) :: rest) >>= _) Q E s
  refine wpAny_bind (wpAny_mono h (fun vs s' h' => ?_) fun _ _ z => z)
  refine wpAny_holding ?_
  rw [if_neg (by simp)]
  refine wpAny_bind (wpAny_mono h' (fun D s2 h2 => ?_) fun _ _ z => z)
  refine wpAny_bind (wpAny_pure (wpAny_bind (wpAny_holding (wpAny_mono h2 (fun kw s3 h3 => wpAny_pure h3) fun _ _ z => z))))
/-- a call with a star or a ** -/
theorem starred_call {K : PySem.W.Frag} {f : Value} {lead : List Value} {pos : Pos} {Q : Value → Shared → Prop} {args : List (Bool × Sem Value)} {kws : List (Option Str × Sem Value)} (hs : (args.any (·.1) || kws.any (·.1.isNone)) = true) (hk : PySem.W.keepIn K f = true)
    (h : wpAny (model prog w) A (evalArgs f true args kws) (fun a s1 => K.In s1.heap ∧ wpAny (model prog w) A (call f (lead ++ a.pos) a.kw) Q E s1) E s) : wpAny (model prog w) A (callWith pos f lead args kws) Q E s := by
  unfold callWith
  refine wpAny_bind (wpAny_holding (wpAny_mono h (fun a s1 h1 => wpAny_bind (wpAny_standAt ?_)) fun _ _ z => z))
  obtain ⟨k, kk, L⟩ := PySem.W.keeps_K (M := model prog w) hk _ h1.1
  rw [hs]
  refine wpAny_bind (L.here ?_)
  have fin : ∀ {t : Sem Value}, wpAny (model prog w) A t Q E s1 → wpAny (model prog w) A (t >>= fun r => holding [r] point >>= fun _ => pure r) Q E s1 := fun z => wpAny_bind (wpAny_mono z (fun r s2 y => wpAny_bind (wpAny_holding (wpAny_point (wpAny_pure y)))) fun _ _ y => y)
  have mk (m : Value) : wpAny (model prog w) A (callMarked m f (lead ++ a.pos) a.kw) Q E s1 := by unfold callMarked; exact Calls.wpAny_keep h1.2
  rcases kk with rfl | rfl | rfl <;> dsimp only <;> first | exact fin (mk _) | exact fin (wpAny_operating h1.2)
end
end Ev
/-! Ev31: C(x, .., **d). -/
namespace Ev
open PySem L2
theorem kw_pairs {P : Program} {w : World} {l : List DictEntry} {va : List (Key × Value)} (h : Pairs (mixKind P w) l va) : ∀ {ks : List Str}, isKw ks (va.map (·.1)) = true → kwOf l = ks.zip (va.map (·.2)) ∧ (∀ e ∈ l, ∃ x tok, e.key = .str x tok) ∧ ks.length = va.length := by
  induction h with
  | nil =>
    intro ks h
    cases ks with
    | nil => exact ⟨rfl, (fun e he => by cases he), rfl⟩
    | cons k ks => cases h
  | @cons e kv es kvs hk hv t ih =>
    intro ks h
    cases ks with
    | nil => cases h
    | cons k ks =>
      have h' : (decide (kv.1 = .inr k) && isKw ks (kvs.map (·.1))) = true := h
      rw [Bool.and_eq_true] at h'
      obtain ⟨h1, h2, h3⟩ := ih h'.2
      have e1 : kv.1 = .inr k := of_decide_eq_true h'.1
      have hk' : keyIs kv.1 e.key = true := hk
      rw [e1] at hk'
      rcases keyIs_shape hk' with ⟨i, t, z, _⟩ | ⟨y, t, z, ez⟩
      · cases z
      · cases z
        refine ⟨?_, fun e' he => ?_, by rw [List.length_cons, List.length_cons, h3]⟩
        · have : kwOf (e :: es) = (k, e.val) :: kwOf es := by
            show (match e.key with | .str x _ => [(x, e.val)] | _ => []) ++ kwOf es = _
            rw [ez]
            rfl
          rw [this, h1, hv]
          rfl
        · rcases List.mem_cons.mp he with rfl | he
          · exact ⟨k, t, ez⟩
          · exact h2 e' he
theorem kv_vals {kvs : List (Key × V)} {va : List (Key × Value)} (h : KV kvs va) : Vals (kvs.map (·.2)) (va.map (·.2)) ∧ kvs.map (·.1) = va.map (·.1) := by
  unfold KV at h
  induction h with
  | nil => exact ⟨.nil, rfl⟩
  | cons h t ih => exact ⟨.cons h.2 ih.1, by rw [List.map_cons, List.map_cons, ih.2, h.1]⟩
end Ev
/-! Ev32: the rule of C(x, .., **d). -/
namespace Ev
open PySem L2
theorem pairs_dis {P : Program} {w : World} {l : List DictEntry} {va : List (Key × Value)} (h : Pairs (mixKind P w) l va) : (va.map (·.1)).Nodup → ∀ (i j : Nat) (ei ej : DictEntry) (k : Key), l[i]? = some ei → l[j]? = some ej → j < i → keyIs k ei.key = true → keyIs k ej.key = false := by
  induction h with
  | nil => intro _ i j ei ej k h1; simp at h1
  | @cons e kv es kvs hk hv t ih =>
    intro nd i j ei ej k h1 h2 hlt hki
    rw [List.map_cons, List.nodup_cons] at nd
    cases i with
    | zero => omega
    | succ i =>
      have h1' : es[i]? = some ei := by simpa using h1
      cases j with
      | succ j => exact ih nd.2 i j ei ej k h1' (by simpa using h2) (by omega) hki
      | zero =>
        cases (show e = ej by simpa using h2)
        cases hc : keyIs k e.key with
        | false => rfl
        | true =>
          exfalso
          have e1 : k = kv.1 := (mixKind P w).inj _ _ _ hc hk
          have key : ∀ {es : List DictEntry} {kvs : List (Key × Value)}, Pairs (mixKind P w) es kvs → ∀ (i : Nat) (ei : DictEntry), es[i]? = some ei → keyIs k ei.key = true → k ∈ kvs.map (·.1) := by
            intro es kvs h
            induction h with
            | nil => intro i ei h; simp at h
            | @cons e' kv' es' kvs' hk' hv' t' ih' =>
              intro i ei h hq
              cases i with
              | zero =>
                cases (show e' = ei by simpa using h)
                rw [List.map_cons, (mixKind P w).inj _ _ _ hq hk']
                exact List.mem_cons_self
              | succ i =>
                rw [List.map_cons]
                exact List.mem_cons_of_mem _ (ih' i ei (by simpa using h) hq)
          exact nd.1 (by rw [← e1]; exact key t i ei h1' hki)
end Ev
/-! Ev33: the rule of C(x, .., **d). -/
namespace Ev
open PySem L2
section
variable {X : Cx} {g : Cfg} {pos p0 kp : Pos} {a b : Expr} {ib : E} {x c : Str} {es : List Expr} {is : Es} {k f : Nat} {ar : List Ar} {ds : List T} {ksn : List Str}
theorem snd_newdd (M : MkC X.prog X.w X.K X.mg X.base g.xr g.C k f c (es.length + 1) ksn ar ds) (hr : Room (k + 1) X.A) (tk : Takes X g.W) (hg : Gl X x) (hm : X.mg x = some (.ref (He.ga X.K c))) (ha : PA X (a :: es) (tEs X.K g is)) (hb : PE X b (tE X.K g ib))
    (la : esLen is = es.length + 1) (hdb : (x == ("__debug__" : Str)) = false)
    (he : starEach (a :: es) X.env = (false, eval a X.env) :: starEach es X.env)
    (hkw : keywordEach [⟨none, b, kp⟩] X.env = [(none, eval b X.env)]) :
    PE X (.Call (.Name x p0) (a :: es) [⟨none, b, kp⟩] pos) (tE X.K g (.newdd c f is ib ksn ar)) := by
  obtain ⟨⟨fa, fd, ps, mv, M, F, kb⟩, ok⟩ := M
  refine ⟨fun pins s σ H Q I ⟨Rt, env, A, rl, p⟩ => ?_⟩
  refine wpAny_Call_Name_kw (ld_glob I hg hm ?_ hdb)
  have e1 : backToKw pos (keywordEach [⟨none, b, kp⟩] X.env) = [(none, do let v ← eval b X.env; standAt pos; pure v)] := by rw [hkw]; rfl
  have e2 : ∃ rest, backTo pos (starEach (a :: es) X.env) = (false, eval a X.env) :: rest := by rw [he]; exact ⟨_, rfl⟩
  rw [e1]
  refine starred_call (K := X.K) (by simp) M.kp ?_
  obtain ⟨rest, e2⟩ := e2
  have sp := ha.run pos pins s σ H (fun vs H1 => tE X.K g ib σ H1 fun v H2 => ∃ ad kvs, v = V.ref ad ∧ Rd H2 ad (.dK kvs) ∧ isKw ksn (kvs.map (·.1)) = true ∧ vs.length = es.length + 1 ∧ ∀ y dx, H2 y = none → H2 dx = none → dx ≠ y →
    spC X.K g.xr g.C f [0] (ar.length + 1) (gA ar (.ref y :: vs) (ds.map litV) (kvs.map (·.2))) (upd (upd H2 dx (.own y)) y (.ins (He.ga X.K c) dx [])) (fun v H3 => v = .non ∧ Q (.ref y) H3) (WE g.W σ)) I ?_
  · rw [e2] at sp ⊢
    refine evalArgs_dd (thn sp fun us s1 ⟨vs, H1, I1, r, q⟩ => ?_)
    have fp := I1.fpOk (Nat.le_refl _) I1.fresh
    have hpD : (s1.heap.push { cls := .type "dict", data := .dict #[] }).get? s1.heap.objs.size = some { cls := .type "dict", data := .dict #[] } := Heap.get?_push_size _ rfl
    have J := (I1.kept (h' := s1.heap.push { cls := .type "dict", data := .dict #[] }) (t' := s1.toks) (fun b u q => Heap.get?_push_of_some _ q)).pinned (fp := [s1.heap.objs.size])
      (fun b hb => by cases List.mem_singleton.mp hb; exact fp) (fun b hb => by cases List.mem_singleton.mp hb; exact ⟨_, hpD, fun v z => by cases z⟩)
    refine merged_ok (wpAny_bind (thn (hb.run _ _ σ H1 _ J q) fun u s2 ⟨v, H2, I2, rv, ad, kvs, ev, hrd, hkk, lv, q2⟩ => wpAny_bind (wpAny_standAt (wpAny_pure ?_))))
    subst ev
    cases (show u = Value.ref ad from rv)
    obtain ⟨hz, hsm, va, kv, o, es', ep, ho, hx, hd, hk, hps, nd⟩ := L2.dk_rd I2.hok hrd
    obtain ⟨pD, nD, lD, fD, _⟩ := I2.pin (s1.heap.objs.size, { cls := .type "dict", data := .dict #[] }) (List.mem_append_right _ (List.mem_append_right _ (by
      unfold pinsAt
      rw [List.filterMap_cons, hpD]
      exact List.mem_cons_self)))
    obtain ⟨kvv, kve⟩ := kv_vals kv
    obtain ⟨w1, w2, w3⟩ := kw_pairs hps (ks := ksn) (by rw [← kve]; exact hkk)
    have hne : ad ≠ s1.heap.objs.size := fun z => by
      obtain ⟨u, hu⟩ := Rd.there hrd
      rw [z] at hu
      rw [hu] at nD
      cases nD
    have hsz : es'.size = va.length := by rw [← Array.length_toList]; exact hps.length
    refine merge_ok (knd := mixKind X.prog X.w) ho hx hd hk (fun e he b z => by
        obtain ⟨y, tok, ey⟩ := w2 e (by simpa using he)
        rw [ey] at z
        cases z) hsm hne pD (by rw [hsz, ← kv.length]; exact hz) (fun i hi k hki j hj hji => by
        refine pairs_dis hps nd i j es'[i] es'[j] k ?_ ?_ hji hki
        · simp [hi]
        · simp [hj]) fun h' od n gD dD sb => ?_
    have I3 : Inv X pins σ H2 { s2 with heap := h' } := (I2.unpinned).turned (t' := s2.toks) (it := s1.heap.objs.size) (fun b o hb hq => (sb.2 b hb).trans hq) nD lD fp.2.2.2.1 fp.2.2.2.2.1 fp.2.2.2.2.2
    refine kwIn_ok (s := { s2 with heap := h' }) gD dD (fun e he => w2 e (by simpa using he)) ⟨I3.kIn, ?_⟩
    rw [w1]
    exact run_makeS M F hr kb (passAt tk σ) I3 r kvv lv (by rw [List.length_map, kv.length, w3]) q2
  · refine ⟨Rt, env, A, rl, Post.seqE p fun ws e1 vs H1 A1 B1 q1 s1 o1 p1 => ⟨RtB B1 Rt, e1, A1, s1.rl, Post.seq2 s1 p1 fun w e2 v H2 A2 B2 s2 o2 p2 => ?_⟩⟩
    obtain ⟨s3, f1, f2⟩ := s1.fzL2 o1 s2 (ws2 := [w]) (vs2 := [v]) ⟨v, [], B2, [], rfl, (List.append_nil _).symm, o2, rfl, rfl⟩
    obtain ⟨v', r', ev, fz, _⟩ := f2
    cases ev
    cases e4 : w.fz with
    | nd n ts =>
      rw [e4] at p2 fz
      have p3 : Post X.K g (PO1 X.K) Rt σ H A (match n.keys.map fun ks => (ks, ts) with
        | some (js, us) => if isKw ksn js then (match arr (fzs ws) us ar with
          | some ts => newR (g.C f (.nd (.ins c []) [] :: ts.map .val)) e2
          | none => .no) else .no
        | none => .no) Q := p2
      cases ek : n.keys with
      | none => rw [ek] at p3; exact p3.elim
      | some js =>
        rw [ek] at p3
        have p4 : Post X.K g (PO1 X.K) Rt σ H A (if isKw ksn js then (match arr (fzs ws) ts ar with
          | some ts => newR (g.C f (.nd (.ins c []) [] :: ts.map .val)) e2
          | none => .no) else .no) Q := p3
        by_cases hi : isKw ksn js = true
        case neg => rw [if_neg hi] at p4; exact p4.elim
        rw [if_pos hi] at p4
        obtain ⟨ad, xs, o, rfl, at_, _, no, hl⟩ := fz
        obtain ⟨kvs, rfl, c1, c2, _⟩ := no.dct ek
        subst c1 c2
        refine ⟨ad, kvs, rfl, at_.rd, hi, by rw [← OwnL.len _ _ _ o1, evEs_len _ _ _ _ q1]; exact la, fun y dy hy hdy hne => ?_⟩
        cases e3 : arr (fzs ws) ts ar with
        | none => rw [e3] at p4; exact p4.elim
        | some us =>
          rw [e3] at p4
          have fz := arr_fz f1 hl ar us ok e3
          exact new_ev (ts := us) (vs := ar.filterMap (pickA vs (ds.map litV) (kvs.map (·.2)))) s3 fz hy hdy hne (by rw [← fz.len, arr_len ar us e3]) p4
    | _ => rw [e4] at p2; exact p2.elim
end
end Ev
/-! Ev34: what the head tells, as facts; the hook. -/
namespace Ev
open PySem L2
/-! ### written trees -/
mutual
def tB (K : PySem.W.Frag) : T → Value → Bool
  | .tup ts, u => (match u with
    | .ref a => (match K.lookup a with
      | some ⟨.type c, _, .seq its _, _⟩ => decide (c = "tuple") && (decide (its.size ≤ sizeLine) && tBs K ts its.toList)
      | _ => false)
    | _ => false)
  | .non, u => He.relB .non u
  | .bl b, u => He.relB (.bl b) u
  | .int i, u => He.relB (.int i) u
  | .str x, u => He.relB (.str x) u
  | _, _ => false
def tBs (K : PySem.W.Frag) : List T → List Value → Bool
  | [], [] => true
  | t :: ts, u :: us => tB K t u && tBs K ts us
  | _, _ => false
end
theorem ba {a b : Bool} (h : (a && b) = true) : a = true ∧ b = true := Bool.and_eq_true_iff.mp h
section
variable {K : PySem.W.Frag}
mutual
theorem tB_ok : ∀ (t : T) (u : Value), tB K t u = true → ∃ v, RelV v u ∧ ∀ H av, Fz K H av t v
  | .tup ts, u, h => by
    cases u with
    | ref a =>
      have h2 : (match K.lookup a with
        | some ⟨.type c, _, .seq its _, _⟩ => decide (c = "tuple") && (decide (its.size ≤ sizeLine) && tBs K ts its.toList)
        | _ => false) = true := by
        unfold tB at h
        exact h
      cases q : K.lookup a with
      | none => rw [q] at h2; cases h2
      | some o =>
        obtain ⟨oc, od, dt, osl⟩ := o
        rw [q] at h2
        cases oc with
        | type c =>
          cases dt with
          | seq its n =>
            obtain ⟨c1, c2⟩ := ba (show (decide (c = "tuple") && (decide (its.size ≤ sizeLine) && tBs K ts its.toList)) = true from h2)
            obtain ⟨c3, c4⟩ := ba c2
            obtain ⟨vs, rv, fv⟩ := tBs_ok ts its.toList c4
            refine ⟨.ref a, rfl, fun H av => ?_⟩
            exact ⟨a, vs, rfl, .inr ⟨_, its, n, q, congrArg Value.type (of_decide_eq_true c1), rfl, of_decide_eq_true c3, rv⟩, fv H av⟩
          | _ => cases h2
        | _ => cases dt <;> cases h2
    | _ => unfold tB at h; cases h
  | .non, u, h => ⟨.non, He.relB_ok (by unfold tB at h; exact h), fun _ _ => rfl⟩
  | .bl b, u, h => ⟨.bl b, He.relB_ok (by unfold tB at h; exact h), fun _ _ => rfl⟩
  | .int i, u, h => ⟨.int i, He.relB_ok (by unfold tB at h; exact h), fun _ _ => rfl⟩
  | .str x, u, h => ⟨.str x, He.relB_ok (by unfold tB at h; exact h), fun _ _ => rfl⟩
  | .ty _, u, h => by unfold tB at h; cases h
  | .gl _, u, h => by unfold tB at h; cases h
  | .lst _, u, h => by unfold tB at h; cases h
  | .nd _ _, u, h => by unfold tB at h; cases h
  | .set _, u, h => by unfold tB at h; cases h
  | .scr _, u, h => by unfold tB at h; cases h
theorem tBs_ok : ∀ (ts : List T) (us : List Value), tBs K ts us = true → ∃ vs, Vals vs us ∧ ∀ H av, FzL K H av ts vs
  | [], [], _ => ⟨[], .nil, fun _ _ => rfl⟩
  | [], _ :: _, h => by unfold tBs at h; cases h
  | _ :: _, [], h => by unfold tBs at h; cases h
  | t :: ts, u :: us, h => by
    unfold tBs at h
    obtain ⟨h1, h2⟩ := ba h
    obtain ⟨v, rv, fv⟩ := tB_ok t u h1
    obtain ⟨vs, rvs, fvs⟩ := tBs_ok ts us h2
    exact ⟨v :: vs, .cons rv rvs, fun H av => ⟨v, vs, rfl, fv H av, fvs H av⟩⟩
end
/-! ### a written dict with text keys -/
def entB (K : PySem.W.Frag) : List DictEntry → List Str → List T → Bool
  | [], [], [] => true
  | e :: r, k :: ks, t :: ts => (match e.key with | .str x _ => decide (x = k) | _ => false) && (tB K t e.val && entB K r ks ts)
  | _, _, _ => false
theorem entB_ok : ∀ (l : List DictEntry) (ks : List Str) (ts : List T), entB K l ks ts = true → KEnt K l ks ts
  | [], [], [], _ => trivial
  | e :: r, k :: ks, t :: ts, h => by
    obtain ⟨h1, h2⟩ := ba (show ((match e.key with | .str x _ => decide (x = k) | _ => false) && (tB K t e.val && entB K r ks ts)) = true from h)
    obtain ⟨h3, h4⟩ := ba h2
    refine ⟨?_, tB_ok t e.val h3, entB_ok r ks ts h4⟩
    cases q : e.key with
    | str x tok =>
      rw [q] at h1
      rw [of_decide_eq_true h1]
      exact ⟨tok, rfl⟩
    | _ => rw [q] at h1; cases h1
  | [], [], _ :: _, h => by cases h
  | [], _ :: _, _, h => by cases h
  | _ :: _, [], _, h => by cases h
  | _ :: _, _ :: _, [], h => by cases h
def menuB (K : PySem.W.Frag) (a : Addr) (ks : List Str) (ts : List T) : Bool := match K.lookup a with
  | some ⟨_, _, .dict es _, _⟩ => entB K es.toList ks ts
  | _ => false
theorem menuB_ok {a : Addr} {w : World} {ks : List Str} {ts : List T} (h : menuB K a ks ts = true) (hd : ∃ es n, KDict K w a es n) : KMn K w a ks ts := by
  obtain ⟨es, n, D⟩ := hd
  refine ⟨es, n, D, ?_⟩
  unfold menuB at h
  rw [D.at_] at h
  exact entB_ok _ _ _ h
end
/-! ### facts -/
inductive Fb where
  | glo (x : Str) | free (x : Str) | con (x : Str) (t : T)
  | cls (c : Str) | noat (c f : Str) | meth (c m : Str) | mkr (c : Str) | stat (c m : Str) | prop (c m : Str)
  | isc (c : Str) (cs : List Str)
  | op (c m : Str) | slf (c : Str) | ne (c : Str)
  | menu (x : Str) (ks : List Str) (ts : List T)
def Fb.P (K : PySem.W.Frag) (w : World) (mg : Str → Option Value) : Fb → Prop
  | .glo x => mg x = some (.ref (He.ga K x))
  | .free x => mg x = none
  | .con x t => ∃ v u, mg x = some u ∧ RelV v u ∧ ∀ H av, Fz K H av t v
  | .cls c => Cls K (He.ga K c)
  | .noat c f => NoAttr K (He.ga K c) f
  | .meth c m => Meth K (He.ga K c) m (He.ma K (He.ga K c) m)
  | .mkr c => L2.Mk K (He.ga K c) (He.ma K (He.ga K c) "__init__")
  | .stat c m => Stat K (He.ga K c) m (He.ma K (He.ga K c) m) (He5.wf K (He.ga K c) "staticmethod" m)
  | .prop c m => PropOf K (He.ga K c) m (He.ma K (He.ga K c) m) (He5.wf K (He.ga K c) "property" m)
  | .isc c cs => IsO K c cs
  | .op c m => PySem.W.findIn K (.ref (He.ga K c)) m = some (some (.ref (He.ma K (He.ga K c) m))) ∧ PySem.W.fnIn K (He.ma K (He.ga K c) m) = true ∧ PySem.W.isFn K (.ref (He.ma K (He.ga K c) m)) = true
  | .slf c => PySem.W.selfFirst K (He.ga K c) = true
  | .ne c => PySem.W.findIn K (.ref (He.ga K c)) "__ne__" = some (some (.builtin "object.__ne__")) ∧ PySem.W.subIn K (.ref (He.ga K c)) (.type "object") = some true
  | .menu x ks ts => mg x = some (.ref (He.ga K x)) ∧ KMn K w (He.ga K x) ks ts
def iscB (K : PySem.W.Frag) (c : Str) : Bool := (He.Fa.cls c).ok K && (He.eqO (PySem.W.findIn K (.ref (He.ga K c)) "__class__") (some (some (.builtin "object.__class__"))) && (He.eqO (PySem.W.specialIn K (.builtin "object.__class__") "__get__") (some (some (.builtin "getset_descriptor.__get__"))) &&
  (decide (PySem.W.takesIn K (.builtin "object.__class__") = some true) && decide (PySem.W.mroIn K (He.ga K c) (.type "object") = some true))))
theorem iscB_ok {K : PySem.W.Frag} {c : Str} (h : iscB K c = true) : IsC K c := by
  obtain ⟨h1, h⟩ := ba h
  obtain ⟨h2, h⟩ := ba h
  obtain ⟨h3, h⟩ := ba h
  obtain ⟨h4, h5⟩ := ba h
  exact ⟨He.cls_ok h1, He.eqO_ok h2, He.eqO_ok h3, of_decide_eq_true h4, of_decide_eq_true h5⟩
def tys : List Ty := [.int, .bool, .str, .non, .list, .tuple, .dict]
def Fb.ok (K : PySem.W.Frag) : Fb → Bool
  | .glo x => (He.Fa.glo x).ok K
  | .free x => (He.Fa.free x).ok K
  | .con x t => (match PySem.W.nsIn K mainGlobals x with
    | some (some u) => tB K t u
    | _ => false)
  | .cls c => (He.Fa.cls c).ok K
  | .noat c f => (He.Fa.noat c f).ok K
  | .meth c m => (He.Fa.meth c m).ok K
  | .mkr c => (He.Fa.mkr c).ok K
  | .stat c m => PySem.W.readsIn K (He.ga K c) (.type "type") && (He.eqO (PySem.W.specialIn K (.ref (He.ga K c)) "__getattribute__") (some (some (.builtin "type.__getattribute__"))) && He5.wrapB K (He.ga K c) "staticmethod" "staticmethod.__get__" m)
  | .prop c m => He.eqO (PySem.W.findIn K (.ref (He.ga K c)) m) (some (some (.ref (He.ma K (He.ga K c) m)))) && (He.eqO (PySem.W.specialIn K (.ref (He.ma K (He.ga K c) m)) "__get__") (some (some (.builtin "property.__get__"))) &&
    (decide (PySem.W.takesIn K (.ref (He.ma K (He.ga K c) m)) = some true) && (match PySem.W.recIn K (He.ma K (He.ga K c) m) "property" with
      | some (.ref _ :: _) => true
      | _ => false)))
  | .isc c cs => tys.all (fun y => decide (PySem.W.kitOne K (.type y.nm) (.ref (He.ga K c)) = some false)) && cs.all fun c' => iscB K c' && decide (PySem.W.kitOne K (.ref (He.ga K c')) (.ref (He.ga K c)) = some (decide (c' = c)))
  | .op c m => He.eqO (PySem.W.findIn K (.ref (He.ga K c)) m) (some (some (.ref (He.ma K (He.ga K c) m)))) && (PySem.W.fnIn K (He.ma K (He.ga K c) m) && PySem.W.isFn K (.ref (He.ma K (He.ga K c) m)))
  | .slf c => PySem.W.selfFirst K (He.ga K c)
  | .ne c => He.eqO (PySem.W.findIn K (.ref (He.ga K c)) "__ne__") (some (some (.builtin "object.__ne__"))) && decide (PySem.W.subIn K (.ref (He.ga K c)) (.type "object") = some true)
  | .menu x ks ts => (He.Fa.glo x).ok K && menuB K (He.ga K x) ks ts
def Fb.tab : Fb → Option (Str × List Str)
  | .menu x ks _ => some (x, ks)
  | _ => none
section
variable {K : PySem.W.Frag} {h : Heap} {w : World} {mg : Str → Option Value}
theorem Fb.sound (X : K.In h) (G : h.Ns mainGlobals mg) : ∀ f : Fb, f.ok K = true → (∀ x ks, f.tab = some (x, ks) → ∃ es n, KDict K w (He.ga K x) es n) → f.P K w mg
  | .glo x, c, _ => He.glo_ok X G c
  | .free x, c, _ => He.free_ok X G c
  | .con x t, c, _ => by
    have c2 : (match PySem.W.nsIn K mainGlobals x with
      | some (some u) => tB K t u
      | _ => false) = true := c
    cases e : PySem.W.nsIn K mainGlobals x with
    | none => rw [e] at c2; cases c2
    | some o =>
      rw [e] at c2
      cases o with
      | none => cases c2
      | some u =>
        obtain ⟨v, rv, fv⟩ := tB_ok t u c2
        exact ⟨v, u, PySem.W.mg_of X G e, rv, fv⟩
  | .cls c, h, _ => He.cls_ok h
  | .noat c f, h, _ => He.noat_ok h
  | .meth c m, h, _ => He.meth_ok h
  | .mkr c, h, _ => He.mkr_ok h
  | .stat c m, h, _ => by
    obtain ⟨h1, h⟩ := ba h
    obtain ⟨h2, h3⟩ := ba h
    obtain ⟨h4, h5⟩ := He5.wrapB_ok h3
    exact ⟨⟨_, ⟨h1, He.eqO_ok h2⟩, h4⟩, h5⟩
  | .prop c m, h, _ => by
    obtain ⟨h1, h⟩ := ba h
    obtain ⟨h2, h⟩ := ba h
    obtain ⟨h3, h4⟩ := ba h
    refine ⟨He.eqO_ok h1, He.eqO_ok h2, of_decide_eq_true h3, ?_⟩
    unfold He5.wf
    split at h4
    · rename_i f r e
      exact ⟨r, by rw [e]⟩
    · cases h4
  | .isc c cs, h, _ => by
    obtain ⟨h1, h2⟩ := ba h
    refine ⟨fun y => of_decide_eq_true (List.all_eq_true.mp h1 y (by cases y <;> simp [tys])), fun c' hc => ?_⟩
    obtain ⟨h3, h4⟩ := ba (List.all_eq_true.mp h2 c' hc)
    exact ⟨iscB_ok h3, of_decide_eq_true h4⟩
  | .op c m, h, _ => by
    obtain ⟨h1, h⟩ := ba h
    obtain ⟨h2, h3⟩ := ba h
    exact ⟨He.eqO_ok h1, h2, h3⟩
  | .slf c, h, _ => h
  | .ne c, h, _ => by
    obtain ⟨h1, h2⟩ := ba h
    exact ⟨He.eqO_ok h1, of_decide_eq_true h2⟩
  | .menu x ks ts, h, d => by
    obtain ⟨h1, h2⟩ := ba h
    exact ⟨He.glo_ok X G h1, menuB_ok h2 (d x ks rfl)⟩
end
/-! ### the hook -/
abbrev AlX : Type := Bool × List He.FnW × List (Option (List (Option (Str × Int))))
def tabsOf (fa : List Fb) : List (Str × List Str) := fa.filterMap Fb.tab
def obsX (fa : List Fb) (fn : List He5.DefA) (K : PySem.W.Frag) : AlX := ((fa.all fun f => f.ok K) && fn.all fun d => d.ok K, fn.map (fun d => He5.fnA K (d.at_ K)), (tabsOf fa).map fun t => He.dicW K (He.ga K t.1))
def valX (fa : List Fb) (fn : List He5.DefA) (w : World) : AlX := (true, fn.map He5.DefA.val, (tabsOf fa).map fun t => some (He.keysIn w.params t.2))
def SaysX (fa : List Fb) (fn : List He5.DefA) (w : World) (K : PySem.W.Frag) : Prop := obsX fa fn K = valX fa fn w
def obsXG (n : Nat) (fa : List Fb) (fn : List He5.DefA) (g : Addr → Option Obj) : AlX := obsX fa fn (He.frG g (He5.asA g n))
def hookX (n : Nat) (fa : List Fb) (fn : List He5.DefA) : PySem.W.Hook where
  α := AlX
  obs := fun s => obsXG n fa fn s.heap.get?
  val := fun w => valX fa fn w
  says := fun w h => ∃ K : PySem.W.Frag, K.In h ∧ SaysX fa fn w K
  of := fun _ _ e => ⟨_, He.frG_in, e⟩
  keeps := fun _ _ _ ⟨K, hK, c⟩ k => ⟨K, PySem.W.Frag.In.keeps hK k, c⟩
theorem obsXG_eq {n : Nat} {fa : List Fb} {fn : List He5.DefA} {g : Addr → Option Obj} {s : Shared} (h : ∀ a, g a = s.heap.get? a) : obsXG n fa fn g = (hookX n fa fn).obs s := by
  have e : g = s.heap.get? := funext h
  rw [e] <;> rfl
section
variable {fa : List Fb} {fn : List He5.DefA} {K : PySem.W.Frag} {w : World} {h : Heap} {mg : Str → Option Value}
theorem SaysX.fact (c : SaysX fa fn w K) (X : K.In h) (G : h.Ns mainGlobals mg) (i : Nat) (f : Fb) (e : fa[i]? = some f) : f.P K w mg := by
  have c1 := (ba (show ((fa.all fun f => f.ok K) && fn.all fun d => d.ok K) = true from congrArg (fun z : AlX => z.1) c)).1
  have hm := List.mem_of_getElem? e
  refine Fb.sound X G f (List.all_eq_true.mp c1 f hm) fun x ks ht => ?_
  have e2 : (tabsOf fa).map (fun t => He.dicW K (He.ga K t.1)) = (tabsOf fa).map fun t => some (He.keysIn w.params t.2) := congrArg (fun z : AlX => z.2.2) c
  have hm2 : (x, ks) ∈ tabsOf fa := List.mem_filterMap.mpr ⟨f, hm, ht⟩
  have := List.map_inj_left.mp e2 (x, ks) hm2
  exact He.dicW_ok this
theorem SaysX.def_ (c : SaysX fa fn w K) (i : Nat) {d : He5.DefA} (e : fn[i]? = some d := by rfl) : ∃ fd, L2.FunD K d.name d.qual d.params d.body d.scope (d.dvs K) (d.kws K) (d.at_ K) fd := by
  have c2 := (ba (show ((fa.all fun f => f.ok K) && fn.all fun d => d.ok K) = true from congrArg (fun z : AlX => z.1) c)).2
  have e1 : fn.map (fun d => He5.fnA K (d.at_ K)) = fn.map He5.DefA.val := congrArg (fun z : AlX => z.2.1) c
  exact He5.DefA.funD (List.map_inj_left.mp e1 d (List.mem_of_getElem? e)) (List.all_eq_true.mp c2 d (List.mem_of_getElem? e))
end
end Ev
/-! Ev35: the rules in short forms, by a context. -/
namespace Ev
open PySem L2
/-- where a def stands -/
inductive Ad where
  | glo (x : Str) | met (c m : Str) | stat (c m : Str) | prop (c m : Str)
def Ad.at_ (K : PySem.W.Frag) : Ad → Addr
  | .glo x => He.ga K x
  | .met c m => He.ma K (He.ga K c) m
  | .stat c m => He5.wf K (He.ga K c) "staticmethod" m
  | .prop c m => He5.wf K (He.ga K c) "property" m
/-- a class made by positional arguments and keywords -/
structure MkI where
  c : Str
  f : Nat
  np : Nat
  ks : List Str
  ar : List Ar
  ds : List T
/-- a text: its defs, free names, constants, facts, makings -/
structure Tx where
  fs : List (Option (Ad × List Nat × Nat))
  bl : List Str
  cs : List (Str × T)
  fa : List Fb
  mks : List MkI
  ms : List (Str × Nat)
def cstG (cs : List (Str × T)) (i : Nat) : Option T := (cs[i]?).map (·.2)
structure Ct (X : Cx) (g : Cfg) (d : Nat) (tx : Tx) : Prop where
  calm : X.calm = true
  nd : X.N.Nodup
  un : X.A.units + 64 < cLine
  tk : Takes X g.W
  room : Room (2 * d + 1) X.A
  fn : ∀ (i : Nat) (a : Ad) (io : List Nat) (n : Nat), tx.fs[i]? = some (some (a, io, n)) → FnA X.prog X.w X.K X.mg X.base g.xr g.C (2 * d) i (a.at_ X.K) io n
  gl : ∀ (i : Nat) (x : Str) (io : List Nat) (n : Nat), tx.fs[i]? = some (some (.glo x, io, n)) → X.mg x = some (.ref (He.ga X.K x))
  bl : ∀ x, tx.bl.contains x = true → X.mg x = none
  fc : ∀ (i : Nat) (f : Fb), tx.fa[i]? = some f → f.P X.K X.w X.mg
  gc : g.G = cstG tx.cs
  mks : ∀ (i : Nat) (m : MkI), tx.mks[i]? = some m → MkC X.prog X.w X.K X.mg X.base g.xr g.C (2 * d) m.f m.c m.np m.ks m.ar m.ds
  ms : ∀ (i : Nat) (c : Str) (f : Nat), tx.ms[i]? = some (c, f) → MkS X.prog X.w X.K X.mg X.base g.xr g.C (2 * d) f c
theorem Ct.blk {X : Cx} {g : Cfg} {d : Nat} {tx : Tx} (c : Ct X g d tx) {s : Shared} {H : Hp} {scope : Scope} {env : PySem.Env} {fp : List Addr} : Ct (X.blk s H scope env fp) g.mute d tx :=
  ⟨c.calm, c.nd, c.un, takes0, c.room, c.fn, c.gl, c.bl, c.fc, c.gc, c.mks, c.ms⟩
theorem Ct.fnC {X : Cx} {g : Cfg} {d : Nat} {tx : Tx} (c : Ct X g d tx) {i : Nat} {x : Str} {io : List Nat} {n : Nat} (h : tx.fs[i]? = some (some (.glo x, io, n))) : FnC X.prog X.w X.K X.mg X.base g.xr g.C (2 * d) i x io n [] := by
  obtain ⟨fd, ps, F, hk, hb⟩ := (c.fn i _ io n h).ex
  exact ⟨_, fd, ps, [], F, c.gl i x io n h, hk, hb, .nil⟩
theorem Ct.gG {X : Cx} {g : Cfg} {d : Nat} {tx : Tx} (c : Ct X g d tx) {i : Nat} {x : Str} {t : T} (h : tx.cs[i]? = some (x, t)) : g.G i = some t := by
  rw [c.gc]
  show (tx.cs[i]?).map _ = _
  rw [h]
  rfl
section
variable {X : Cx} {g : Cfg} {d : Nat} {tx : Tx} {pos p0 p1 p2 p3 apos cpos : Pos} {a b c o : Expr} {es rest : List Expr} {ia ib ic : E} {ja jb : Tt} {is js : Es} {as : As} {x y z nm m : Str} {k : Nat}
/-! ### expressions -/
theorem e_rd (i : Nat) (hN : X.N[i]? = some x := by rfl) (hv : visB X.env.scope x = true := by rfl) (hx : okName x = true := by rfl) : PE X (.Name x pos) (tE X.K g (.rd i)) := snd_rd hN (vis_of hv) (okName_of hx).1 (okName_of hx).2.1
theorem e_rdx (cx : Ct X g d tx) (i : Nat) (hb : PE X b (tE X.K g ib)) (hN : X.N[i]? = some x := by rfl) (hv : visB X.env.scope x = true := by rfl) (hx : okName x = true := by rfl) (hs : PlainIx b := by exact fun _ _ => rfl) : PE X (.Subscript (.Name x p0) b pos) (tE X.K g (.rdx i ib)) :=
  snd_rdx cx.un hN (vis_of hv) (okName_of hx).1 (okName_of hx).2.1 hb hs
theorem e_cst (cx : Ct X g d tx) (i j : Nat) {t : T} (h : tx.cs[i]? = some (x, t) := by rfl) (hf : tx.fa[j]? = some (.con x t) := by rfl) (hg : glB X.env x = true := by rfl) (hx : okName x = true := by rfl) : PE X (.Name x pos) (tE X.K g (.cst i)) := by
  obtain ⟨v, u, h1, h2, h3⟩ := cx.fc j _ hf
  exact snd_cst (cx.gG h) h3 (gl_of hg) h1 h2 (okName_of hx).1
theorem e_cmp {o : CmpOp} (cx : Ct X g d tx) (ha : PE X a (tE X.K g ia)) (hb : PE X b (tE X.K g ib)) (hm : behindInMarks o b = false := by rfl) : PE X (.Compare a [o] [b] pos) (tE X.K g (.cmp o ia ib)) := snd_cmp cx.un ha hb hm
theorem e_chn {o o' : CmpOp} (cx : Ct X g d tx) (ha : PE X a (tE X.K g ia)) (hb : PE X b (tE X.K g ib)) (hc : PE X c (tE X.K g ic)) (hm : lastMarks [o, o'] [b, c] = false := by rfl) : PE X (.Compare a [o, o'] [b, c] pos) (tE X.K g (.chn o o' ia ib ic)) := snd_chn cx.un ha hb hc hm
theorem e_ix (cx : Ct X g d tx) (ha : PE X a (tE X.K g ia)) (hb : PE X b (tE X.K g ib)) (hs : PlainIx b := by exact fun _ _ => rfl) : PE X (.Subscript a b pos) (tE X.K g (.ix ia ib)) := snd_ix cx.un ha hb hs
theorem e_cons (he : PE X a (tE X.K g ia)) (hs : PA X es (tEs X.K g is)) (hst : starEach (a :: es) X.env = (false, eval a X.env) :: starEach es X.env := by rfl) : PA X (a :: es) (tEs X.K g (.cons ia is)) := snd_cons he hs hst
theorem e_nil : PA X [] (tEs X.K g .nil) := pa_nil'
section
variable (cx : Ct X g d tx) (hs : PA X (a :: es) (tEs X.K g is)) (hg : glB X.env x = true) (hm : tx.bl.contains x = true) (hx : okName x = true) (he : starEach (a :: es) X.env = (false, eval a X.env) :: starEach es X.env) (hpl : (backTo pos (starEach es X.env)).any (·.1) = false)
include cx hs hg hm hx he hpl
theorem bv {id : String} {f : List T → Option W} {i : E} (hc : CallR X (.builtin id) (rPL X.K f)) (hv : bootBuiltins x = some (.builtin id)) (ev : ∀ env, evE g.G g.C i env = (evEs g.G g.C is env).bind fun ws env1 => R.of (f (fzs ws)) env1) : PE X (.Call (.Name x p0) (a :: es) [] pos) (tE X.K g i) :=
  snd_callv hc (gl_of hg) (cx.bl x hm) hv hs (okName_of hx).2.2 (okName_of hx).1 he hpl ev
theorem bt {id : String} {f : List T → Option W} {i : E} (hc : CallR X (.type id) (rPL X.K f)) (hv : bootBuiltins x = some (.type id)) (ev : ∀ env, evE g.G g.C i env = (evEs g.G g.C is env).bind fun ws env1 => R.of (f (fzs ws)) env1) : PE X (.Call (.Name x p0) (a :: es) [] pos) (tE X.K g i) :=
  snd_callt hc (gl_of hg) (cx.bl x hm) hv hs (okName_of hx).2.2 (okName_of hx).1 he hpl ev
end
theorem e_len (cx : Ct X g d tx) (hs : PA X (a :: es) (tEs X.K g is)) (hg : glB X.env "len" = true := by rfl) (hm : tx.bl.contains "len" = true := by rfl) (he : starEach (a :: es) X.env = (false, eval a X.env) :: starEach es X.env := by rfl) (hpl : (backTo pos (starEach es X.env)).any (·.1) = false := by rfl) : PE X (.Call (.Name "len" p0) (a :: es) [] pos) (tE X.K g (.bi .len is)) :=
  bv cx hs hg hm (by decide) he hpl bi_len (by decide +kernel) fun _ => rfl
theorem e_sorted (cx : Ct X g d tx) (hs : PA X (a :: es) (tEs X.K g is)) (hg : glB X.env "sorted" = true := by rfl) (hm : tx.bl.contains "sorted" = true := by rfl) (he : starEach (a :: es) X.env = (false, eval a X.env) :: starEach es X.env := by rfl) (hpl : (backTo pos (starEach es X.env)).any (·.1) = false := by rfl) : PE X (.Call (.Name "sorted" p0) (a :: es) [] pos) (tE X.K g (.bi .sorted is)) :=
  bv cx hs hg hm (by decide) he hpl bi_sorted (by decide +kernel) fun _ => rfl
theorem e_min (cx : Ct X g d tx) (hs : PA X (a :: es) (tEs X.K g is)) (hg : glB X.env "min" = true := by rfl) (hm : tx.bl.contains "min" = true := by rfl) (he : starEach (a :: es) X.env = (false, eval a X.env) :: starEach es X.env := by rfl) (hpl : (backTo pos (starEach es X.env)).any (·.1) = false := by rfl) : PE X (.Call (.Name "min" p0) (a :: es) [] pos) (tE X.K g (.bi .min is)) :=
  bv cx hs hg hm (by decide) he hpl (bi_min cx.calm) (by decide +kernel) fun _ => rfl
theorem e_max (cx : Ct X g d tx) (hs : PA X (a :: es) (tEs X.K g is)) (hg : glB X.env "max" = true := by rfl) (hm : tx.bl.contains "max" = true := by rfl) (he : starEach (a :: es) X.env = (false, eval a X.env) :: starEach es X.env := by rfl) (hpl : (backTo pos (starEach es X.env)).any (·.1) = false := by rfl) : PE X (.Call (.Name "max" p0) (a :: es) [] pos) (tE X.K g (.bi .max is)) :=
  bv cx hs hg hm (by decide) he hpl (bi_max cx.calm) (by decide +kernel) fun _ => rfl
theorem e_sum (cx : Ct X g d tx) (hs : PA X (a :: es) (tEs X.K g is)) (hg : glB X.env "sum" = true := by rfl) (hm : tx.bl.contains "sum" = true := by rfl) (he : starEach (a :: es) X.env = (false, eval a X.env) :: starEach es X.env := by rfl) (hpl : (backTo pos (starEach es X.env)).any (·.1) = false := by rfl) : PE X (.Call (.Name "sum" p0) (a :: es) [] pos) (tE X.K g (.bi .sum is)) :=
  bv cx hs hg hm (by decide) he hpl (bi_sum cx.calm) (by decide +kernel) fun _ => rfl
theorem e_all (cx : Ct X g d tx) (hs : PA X (a :: es) (tEs X.K g is)) (hg : glB X.env "all" = true := by rfl) (hm : tx.bl.contains "all" = true := by rfl) (he : starEach (a :: es) X.env = (false, eval a X.env) :: starEach es X.env := by rfl) (hpl : (backTo pos (starEach es X.env)).any (·.1) = false := by rfl) : PE X (.Call (.Name "all" p0) (a :: es) [] pos) (tE X.K g (.bi .all is)) :=
  bv cx hs hg hm (by decide) he hpl (bi_all cx.calm) (by decide +kernel) fun _ => rfl
theorem e_any (cx : Ct X g d tx) (hs : PA X (a :: es) (tEs X.K g is)) (hg : glB X.env "any" = true := by rfl) (hm : tx.bl.contains "any" = true := by rfl) (he : starEach (a :: es) X.env = (false, eval a X.env) :: starEach es X.env := by rfl) (hpl : (backTo pos (starEach es X.env)).any (·.1) = false := by rfl) : PE X (.Call (.Name "any" p0) (a :: es) [] pos) (tE X.K g (.bi .any is)) :=
  bv cx hs hg hm (by decide) he hpl (bi_any cx.calm) (by decide +kernel) fun _ => rfl
theorem e_list (cx : Ct X g d tx) (hs : PA X (a :: es) (tEs X.K g is)) (hg : glB X.env "list" = true := by rfl) (hm : tx.bl.contains "list" = true := by rfl) (he : starEach (a :: es) X.env = (false, eval a X.env) :: starEach es X.env := by rfl) (hpl : (backTo pos (starEach es X.env)).any (·.1) = false := by rfl) : PE X (.Call (.Name "list" p0) (a :: es) [] pos) (tE X.K g (.bi .list is)) :=
  bt cx hs hg hm (by decide) he hpl (bi_list cx.calm) (by decide +kernel) fun _ => rfl
theorem e_tuple (cx : Ct X g d tx) (hs : PA X (a :: es) (tEs X.K g is)) (hg : glB X.env "tuple" = true := by rfl) (hm : tx.bl.contains "tuple" = true := by rfl) (he : starEach (a :: es) X.env = (false, eval a X.env) :: starEach es X.env := by rfl) (hpl : (backTo pos (starEach es X.env)).any (·.1) = false := by rfl) : PE X (.Call (.Name "tuple" p0) (a :: es) [] pos) (tE X.K g (.bi .tuple is)) :=
  bt cx hs hg hm (by decide) he hpl bi_tuple (by decide +kernel) fun _ => rfl
theorem e_toint (cx : Ct X g d tx) (hs : PA X (a :: es) (tEs X.K g is)) (hg : glB X.env "int" = true := by rfl) (hm : tx.bl.contains "int" = true := by rfl) (he : starEach (a :: es) X.env = (false, eval a X.env) :: starEach es X.env := by rfl) (hpl : (backTo pos (starEach es X.env)).any (·.1) = false := by rfl) : PE X (.Call (.Name "int" p0) (a :: es) [] pos) (tE X.K g (.bi .int is)) :=
  bt cx hs hg hm (by decide) he hpl bi_int (by decide +kernel) fun _ => rfl
theorem e_isi (cx : Ct X g d tx) (y : Ty) (ha : PE X a (tE X.K g ia)) (hy : y ≠ .non := by decide) (hg : glB X.env "isinstance" = true := by rfl) (hm : tx.bl.contains "isinstance" = true := by rfl) (hgx : glB X.env x = true := by rfl) (hmx : tx.bl.contains x = true := by rfl) (hbx : bootBuiltins x = some (.type y.nm) := by decide +kernel) (hx : okName x = true := by rfl)
    (hs : starEach [a, .Name x p1] X.env = (false, eval a X.env) :: starEach [.Name x p1] X.env := by rfl) : PE X (.Call (.Name "isinstance" p0) [a, .Name x p1] [] pos) (tE X.K g (.isi ia y)) :=
  snd_isi hy (gl_of hg) (cx.bl _ hm) (gl_of hgx) (cx.bl _ hmx) hbx (okName_of hx).1 (okName_of hx).2.2 ha hs
theorem e_isis2 (cx : Ct X g d tx) (u v : Ty) {kt : Nat} (ha : PE X a (tE X.K g ia)) (hu : u ≠ .non := by decide) (hv : v ≠ .non := by decide) (hg : glB X.env "isinstance" = true := by rfl) (hm : tx.bl.contains "isinstance" = true := by rfl)
    (hgx : glB X.env x = true := by rfl) (hmx : tx.bl.contains x = true := by rfl) (hbx : bootBuiltins x = some (.type u.nm) := by decide +kernel) (hx : okName x = true := by rfl)
    (hgy : glB X.env y = true := by rfl) (hmy : tx.bl.contains y = true := by rfl) (hby : bootBuiltins y = some (.type v.nm) := by decide +kernel) (hy : okName y = true := by rfl)
    (hs : starEach [a, .Tuple [.Name x p1, .Name y p2] kt p3] X.env = (false, eval a X.env) :: starEach [.Tuple [.Name x p1, .Name y p2] kt p3] X.env := by rfl) : PE X (.Call (.Name "isinstance" p0) [a, .Tuple [.Name x p1, .Name y p2] kt p3] [] pos) (tE X.K g (.isis ia [u, v])) :=
  snd_isis2 hu hv (gl_of hg) (cx.bl _ hm) (gl_of hgx) (cx.bl _ hmx) hbx (okName_of hx).1 (okName_of hx).2.2 (gl_of hgy) (cx.bl _ hmy) hby (okName_of hy).1 (okName_of hy).2.2 ha hs
/-! ### calls of the text's own defs -/
theorem a_nil : PA X [] (tA X.K g .nil) := sna_nil
theorem a_cons (he : PE X a (tE X.K g ia)) (hs : PA X es (tA X.K g as)) (hst : starEach (a :: es) X.env = (false, eval a X.env) :: starEach es X.env := by rfl) : PA X (a :: es) (tA X.K g (.cons ia as)) := sna_cons he hs hst
theorem a_io (i : Nat) (hs : PA X es (tA X.K g as)) (hN : X.N[i]? = some x := by rfl) (hv : visB X.env.scope x = true := by rfl) (hx : okName x = true := by rfl)
    (hst : starEach (.Name x pos :: es) X.env = (false, eval (.Name x pos) X.env) :: starEach es X.env := by rfl) : PA X (.Name x pos :: es) (tA X.K g (.io i as)) := sna_io hN (vis_of hv) (okName_of hx).1 (okName_of hx).2.1 hs hst
def As.len : As → Nat
  | .nil => 0
  | .cons _ as => as.len + 1
  | .io _ as => as.len + 1
theorem vsAt_len {σ : St} : ∀ (as : As) (vs : List V), VsAt σ as vs → vs.length = as.len
  | .nil, vs, h => by rw [show vs = [] from h]; rfl
  | .cons _ as, vs, h => by
    obtain ⟨v, r, rfl, h⟩ := h
    rw [List.length_cons, vsAt_len as r h]
    rfl
  | .io _ as, vs, h => by
    obtain ⟨v, r, rfl, _, h⟩ := h
    rw [List.length_cons, vsAt_len as r h]
    rfl
theorem e_call (cx : Ct X g d tx) (f : Nat) {io : List Nat} {n : Nat} (ha : PA X (a :: es) (tA X.K g as)) (hf : tx.fs[f]? = some (some (.glo x, io, n)) := by rfl) (hio : ioPos 0 as = io := by rfl) (hn : Nat.beq as.len n = true := by rfl) (hl : Nat.beq as.len (es.length + 1) = true := by rfl) (hg : glB X.env x = true := by rfl) (hx : okName x = true := by rfl)
    (he : starEach (a :: es) X.env = (false, eval a X.env) :: starEach es X.env := by rfl) (hpl : (backTo pos (starEach es X.env)).any (·.1) = false := by rfl) : PE X (.Call (.Name x p0) (a :: es) [] pos) (tE X.K g (.call f as [])) :=
  snd_call (cx.fnC hf) (cx.room.mono (Nat.le_succ _)) cx.tk (gl_of hg) hio (fun _ _ => rfl) ((Nat.eq_of_beq_eq_true hl).symm.trans (Nat.eq_of_beq_eq_true hn)) ha (fun vs σ h => (vsAt_len as vs h).trans (Nat.eq_of_beq_eq_true hl)) (okName_of hx).1 he hpl
/-! ### tests -/
theorem t_v (ha : PE X a (tE X.K g ia)) (h : plainT a = true := by rfl) : PT X a (tT X.K g (.v ia)) := snt_v ha h
theorem t_cmp {o : CmpOp} (cx : Ct X g d tx) (ha : PE X a (tE X.K g ia)) (hb : PE X b (tE X.K g ib)) (hm : behindInMarks o b = false := by rfl) : PT X (.Compare a [o] [b] pos) (tT X.K g (.v (.cmp o ia ib))) := snt_cmp cx.un ha hb hm
theorem t_chn {o o' : CmpOp} (cx : Ct X g d tx) (ha : PE X a (tE X.K g ia)) (hb : PE X b (tE X.K g ib)) (hc : PE X c (tE X.K g ic)) (hm : lastMarks [o, o'] [b, c] = false := by rfl) : PT X (.Compare a [o, o'] [b, c] pos) (tT X.K g (.v (.chn o o' ia ib ic))) := snt_chn cx.un ha hb hc hm
theorem t_w {a : Expr} (h : PW X a (tT X.K g ja)) : PT X a (tT X.K g ja) := h.pt
theorem ts_nil : PTs X [] (tTs X.K g .nil) := ⟨fun pins s σ H Q I ⟨Rt, env, A, rl, p⟩ => pts_nil.run pins s σ H Q I (p true H A [] rl.sx ⟨rfl, rfl⟩)⟩
theorem ts_one (h : PT X a (tT X.K g ja)) : PTs X [a] (tTs X.K g (.cons ja .nil)) := ⟨fun pins s σ H Q I ⟨Rt, env, A, rl, p⟩ => (pts_one h).run pins s σ H Q I (by
  refine ⟨Rt, env, A, rl, ?_⟩
  have p' : Post X.K g PBl Rt σ H A ((evT g.G g.C ja env).bind fun k env1 => (match k with | true => .ok true env1 | false => .ok false env1)) Q := p
  cases e : evT g.G g.C ja env with
  | no => rw [e] at p'; exact p'
  | exc c t e1 => rw [e] at p'; exact p'
  | ok b e1 =>
    rw [e] at p'
    cases b with
    | true => exact p'
    | false => exact p')⟩
/-! ### what is walked -/
variable {tg : Expr}
theorem i_rng1 (cx : Ct X g d tx) (ha : PE X a (tE X.K g ia)) (hg : glB X.env "range" = true := by rfl) (hm : tx.bl.contains "range" = true := by rfl) (hs : starEach [a] X.env = [(false, eval a X.env)] := by rfl) : PI X tg (.Call (.Name "range" p0) [a] [] pos) (tI X.K g (.rng ia .no)) := sni_rng1 (gl_of hg) (cx.bl _ hm) ha hs
theorem i_rng2 (cx : Ct X g d tx) (ha : PE X a (tE X.K g ia)) (hb : PE X b (tE X.K g ib)) (hg : glB X.env "range" = true := by rfl) (hm : tx.bl.contains "range" = true := by rfl) (hs : starEach [a, b] X.env = [(false, eval a X.env), (false, eval b X.env)] := by rfl) (hs2 : starEach [b] X.env = [(false, eval b X.env)] := by rfl) :
    PI X tg (.Call (.Name "range" p0) [a, b] [] pos) (tI X.K g (.rng ia (.so ib))) := sni_rng2 (gl_of hg) (cx.bl _ hm) ha hb hs hs2
/-! ### targets -/
theorem g_var (cx : Ct X g d tx) (i : Nat) (hN : X.N[i]? = some x := by rfl) (hx : locB X.env.scope x = true := by rfl) (hf : (X.fn x || lclB X.env.scope x) = true := by rfl) : PG X (.Name x pos) (gT X.K (.var i)) :=
  pg_name cx.nd hN (loc_of hx) (by
    rcases Bool.or_eq_true _ _ ▸ hf with h | h
    · exact .inl h
    · exact .inr (lcl_of h))
theorem gs_nil : PGs X [] (gNames []) := pgs_nil
theorem gs_cons {is : List Nat} (cx : Ct X g d tx) (i : Nat) (h : PGs X es (gNames is)) (hN : X.N[i]? = some x := by rfl) (hx : locB X.env.scope x = true := by rfl) (hf : (X.fn x || lclB X.env.scope x) = true := by rfl) (hs : (assignEach (.Name x pos :: es) X.env).map (·.2) = assign (.Name x pos) X.env :: (assignEach es X.env).map (·.2) := by rfl) :
    PGs X (.Name x pos :: es) (gNames (i :: is)) := pgs_cons (pg_name cx.nd hN (loc_of hx) (by
    rcases Bool.or_eq_true _ _ ▸ hf with h | h
    · exact .inl h
    · exact .inr (lcl_of h))) h hs
theorem g_tup {is : List Nat} {k : Nat} (cx : Ct X g d tx) (h : PGs X es (gNames is)) (hn : (assignEach es X.env).length = is.length := by rfl) (hst : (assignEach es X.env).findIdx? (·.1) = none := by rfl) : PG X (.Tuple es k pos) (gT X.K (.tup is)) := pg_tup cx.calm h hn hst
/-! ### comprehensions -/
theorem e_lc {elt iter : Expr} {ifs : List Expr} {scope : Scope} {own : List Nat} {tgi : Tg} {it : Ev.It} {cs' : Tts} {e : E} (cx : Ct X g d tx) (own' : List (Str × Nat))
    (hi : PI X tg iter (tI X.K g it))
    (hg : ∀ (s : Shared) (H : Hp) (C : Addr) (cl : List (Str × Addr)) (fp : List Addr), PG (X.blk s H scope (compEnvC scope cl C X.env) fp) tg (gT X.K tgi))
    (ht : ∀ (s : Shared) (H : Hp) (C : Addr) (cl : List (Str × Addr)) (fp : List Addr), PTs (X.blk s H scope (compEnvC scope cl C X.env) fp) ifs (tTs X.K g.mute cs'))
    (he : ∀ (s : Shared) (H : Hp) (C : Addr) (cl : List (Str × Addr)) (fp : List Addr), PE (X.blk s H scope (compEnvC scope cl C X.env) fp) elt (tE X.K g.mute e))
    (eo : own'.map (·.2) = own := by rfl) (ok : blkB X.N X.env.scope scope own' = true := by rfl) (hlen : allLt (tgs tgi) X.N.length = true := by rfl) (hs : ∀ x, foldedSetIterable iter X.env x = pure x := by exact fun _ => rfl) :
    PE X (.ListComp elt [⟨tg, iter, ifs, 0⟩] scope pos) (tE X.K g (.lc own tgi it cs' e)) := snd_lc eo cx.calm cx.nd hi (blk_of ok) (allLt_of hlen) hg ht he hs
theorem z_sc {elt iter : Expr} {ifs : List Expr} {scope : Scope} {own : List Nat} {tgi : Tg} {it : Ev.It} {cs' : Tts} {e : E} (cx : Ct X g d tx) (own' : List (Str × Nat))
    (hi : PI X tg iter (tI X.K g it))
    (hg : ∀ (s : Shared) (H : Hp) (C : Addr) (cl : List (Str × Addr)) (fp : List Addr), PG (X.blk s H scope (compEnvC scope cl C X.env) fp) tg (gT X.K tgi))
    (ht : ∀ (s : Shared) (H : Hp) (C : Addr) (cl : List (Str × Addr)) (fp : List Addr), PTs (X.blk s H scope (compEnvC scope cl C X.env) fp) ifs (tTs X.K g.mute cs'))
    (he : ∀ (s : Shared) (H : Hp) (C : Addr) (cl : List (Str × Addr)) (fp : List Addr), PE (X.blk s H scope (compEnvC scope cl C X.env) fp) elt (tE X.K g.mute e))
    (eo : own'.map (·.2) = own := by rfl) (ok : blkB X.N X.env.scope scope own' = true := by rfl) (hlen : allLt (tgs tgi) X.N.length = true := by rfl) (hs : ∀ x, foldedSetIterable iter X.env x = pure x := by exact fun _ => rfl) :
    PE X (.SetComp elt [⟨tg, iter, ifs, 0⟩] scope pos) (tZ X.K X.w g (.sc own tgi it cs' e)) := snz_sc eo cx.calm cx.nd hi (blk_of ok) (allLt_of hlen) hg ht he hs
theorem z_of (cx : Ct X g d tx) (ha : PE X a (tE X.K g ia)) (hg : glB X.env "set" = true := by rfl) (hm : tx.bl.contains "set" = true := by rfl) (hs : starEach [a] X.env = (false, eval a X.env) :: starEach [] X.env := by rfl) : PE X (.Call (.Name "set" p0) [a] [] pos) (tZ X.K X.w g (.of ia)) :=
  snz_of rfl cx.calm (gl_of hg) (cx.bl _ hm) ha hs
variable {zz : Se}
theorem e_lenS (cx : Ct X g d tx) (ha : PE X a (tZ X.K X.w g zz)) (hg : glB X.env "len" = true := by rfl) (hm : tx.bl.contains "len" = true := by rfl) (hs : starEach [a] X.env = (false, eval a X.env) :: starEach [] X.env := by rfl) : PE X (.Call (.Name "len" p0) [a] [] pos) (tE X.K g (.lenS zz)) :=
  snd_lenS rfl (gl_of hg) (cx.bl _ hm) ha hs
theorem e_srtS (cx : Ct X g d tx) (ha : PE X a (tZ X.K X.w g zz)) (hg : glB X.env "sorted" = true := by rfl) (hm : tx.bl.contains "sorted" = true := by rfl) (hs : starEach [a] X.env = (false, eval a X.env) :: starEach [] X.env := by rfl) : PE X (.Call (.Name "sorted" p0) [a] [] pos) (tE X.K g (.srtS zz)) :=
  snd_srtS rfl cx.calm (gl_of hg) (cx.bl _ hm) ha hs
theorem e_lrng1 (cx : Ct X g d tx) (ha : PE X a (tE X.K g ia)) (hgl : glB X.env "list" = true := by rfl) (hml : tx.bl.contains "list" = true := by rfl) (hgr : glB X.env "range" = true := by rfl) (hmr : tx.bl.contains "range" = true := by rfl) (hs : starEach [a] X.env = (false, eval a X.env) :: starEach [] X.env := by rfl) :
    PE X (.Call (.Name "list" p1) [.Call (.Name "range" p2) [a] [] p0] [] pos) (tE X.K g (.lrng ia .no)) := snd_lrng1 cx.calm (gl_of hgl) (cx.bl _ hml) (gl_of hgr) (cx.bl _ hmr) ha hs
theorem e_lrng2 (cx : Ct X g d tx) (ha : PE X a (tE X.K g ia)) (hb : PE X b (tE X.K g ib)) (hgl : glB X.env "list" = true := by rfl) (hml : tx.bl.contains "list" = true := by rfl) (hgr : glB X.env "range" = true := by rfl) (hmr : tx.bl.contains "range" = true := by rfl) (hs : starEach [a, b] X.env = (false, eval a X.env) :: starEach [b] X.env := by rfl) (hs2 : starEach [b] X.env = (false, eval b X.env) :: starEach [] X.env := by rfl) :
    PE X (.Call (.Name "list" p1) [.Call (.Name "range" p2) [a, b] [] p0] [] pos) (tE X.K g (.lrng ia (.so ib))) := snd_lrng2 cx.calm (gl_of hgl) (cx.bl _ hml) (gl_of hgr) (cx.bl _ hmr) ha hb hs hs2
theorem e_lrng3 (cx : Ct X g d tx) (ha : PE X a (tE X.K g ia)) (hb : PE X b (tE X.K g ib)) (hc : PE X c (tE X.K g ic)) (hgl : glB X.env "list" = true := by rfl) (hml : tx.bl.contains "list" = true := by rfl) (hgr : glB X.env "range" = true := by rfl) (hmr : tx.bl.contains "range" = true := by rfl)
    (hs : starEach [a, b, c] X.env = (false, eval a X.env) :: starEach [b, c] X.env := by rfl) (hs2 : starEach [b, c] X.env = (false, eval b X.env) :: starEach [c] X.env := by rfl) (hs3 : starEach [c] X.env = (false, eval c X.env) :: starEach [] X.env := by rfl) (hpl : (backTo p0 (starEach [b, c] X.env)).any (·.1) = false := by rfl) :
    PE X (.Call (.Name "list" p1) [.Call (.Name "range" p2) [a, b, c] [] p0] [] pos) (tE X.K g (.lrng3 ia ib ic)) := snd_lrng3 cx.calm (gl_of hgl) (cx.bl _ hml) (gl_of hgr) (cx.bl _ hmr) ha hb hc hs hs2 hs3 hpl
/-! ### statements -/
variable {ks : List Nat} {s : S} {ss s1 s2 : Ss} {st : Stmt}
theorem s_asg (cx : Ct X g d tx) (i : Nat) (he : PE X a (tE X.K g ia)) (hi : X.N[i]? = some x := by rfl) (hx : locB X.env.scope x = true := by rfl) (hk : ks.contains i = false := by rfl) (hs : swapsWith a (some (.Name x p0)) pos.line X.env = pure false := by rfl) (hf : X.fn x = true := by rfl) :
    PS X (.Assign [.Name x p0] a pos) (tS X.K g ks (.asg i ia)) := sns_asg cx.nd hi (loc_of hx) he hk hs (.inl hf)
theorem s_asgLc {elt iter : Expr} {ifs : List Expr} {scope : Scope} {own : List Nat} {tgi : Tg} {it : Ev.It} {cs' : Tts} {e : E} (cx : Ct X g d tx) (i : Nat) (own' : List (Str × Nat))
    (hi : PI X tg iter (tI X.K g it))
    (hg : ∀ (s : Shared) (H : Hp) (C : Addr) (cl : List (Str × Addr)) (fp : List Addr), PG (X.blk s H scope (compEnvC scope cl C X.env) fp) tg (gT X.K tgi))
    (ht : ∀ (s : Shared) (H : Hp) (C : Addr) (cl : List (Str × Addr)) (fp : List Addr), PTs (X.blk s H scope (compEnvC scope cl C X.env) fp) ifs (tTs X.K g.mute cs'))
    (he : ∀ (s : Shared) (H : Hp) (C : Addr) (cl : List (Str × Addr)) (fp : List Addr), PE (X.blk s H scope (compEnvC scope cl C X.env) fp) elt (tE X.K g.mute e))
    (hN : X.N[i]? = some x := by rfl) (hyl : lclB X.env.scope x = true := by rfl) (hk : ks.contains i = false := by rfl) (hsw : swapsWith (.ListComp elt [⟨tg, iter, ifs, 0⟩] scope p1) (some (.Name x p0)) pos.line X.env = pure true := by rfl)
    (eo : own'.map (·.2) = own := by rfl) (ok : blkB X.N X.env.scope scope own' = true := by rfl) (hlen : allLt (tgs tgi) X.N.length = true := by rfl) (hs : ∀ x, foldedSetIterable iter X.env x = pure x := by exact fun _ => rfl) :
    PS X (.Assign [.Name x p0] (.ListComp elt [⟨tg, iter, ifs, 0⟩] scope p1) pos) (tS X.K g ks (.asg i (.lc own tgi it cs' e))) := sns_asgLc eo cx.calm cx.nd hN (lcl_of hyl) hk hsw hi (blk_of ok) (allLt_of hlen) hg ht he hs
theorem s_par2 {kt k2 : Nat} {pt2 : Pos} (cx : Ct X g d tx) (i j : Nat) (ha : PA X [a, b] (tEs X.K g is)) (hi : X.N[i]? = some x := by rfl) (hj : X.N[j]? = some y := by rfl) (hij : i ≠ j := by decide) (hx : lclB X.env.scope x = true := by rfl) (hy : lclB X.env.scope y = true := by rfl) (hki : ks.contains i = false := by rfl) (hkj : ks.contains j = false := by rfl)
    (hw : swappedStores [.Tuple [.Name x p0, .Name y p1] kt p2] (.Tuple [a, b] k2 pt2) X.env = pure (some [x, y]) := by rfl)
    (hs : swapsWithSole [.Tuple [.Name x p0, .Name y p1] kt p2] (.Tuple [a, b] k2 pt2) pos.line X.env = pure false := by rfl) :
    PS X (.Assign [.Tuple [.Name x p0, .Name y p1] kt p2] (.Tuple [a, b] k2 pt2) pos) (tS X.K g ks (.par [i, j] is)) := sns_par2 cx.calm cx.nd hi hj hij (lcl_of hx) (lcl_of hy) hki hkj ha hw hs
theorem s_par3 {kt k2 : Nat} {pt2 : Pos} (cx : Ct X g d tx) (i j l : Nat) (ha : PA X [a, b, c] (tEs X.K g is)) (hi : X.N[i]? = some x := by rfl) (hj : X.N[j]? = some y := by rfl) (hl : X.N[l]? = some z := by rfl) (hij : i ≠ j := by decide) (hil : i ≠ l := by decide) (hjl : j ≠ l := by decide)
    (hx : lclB X.env.scope x = true := by rfl) (hy : lclB X.env.scope y = true := by rfl) (hz : lclB X.env.scope z = true := by rfl) (hki : ks.contains i = false := by rfl) (hkj : ks.contains j = false := by rfl) (hkl : ks.contains l = false := by rfl)
    (hw : swappedStores [.Tuple [.Name x p0, .Name y p1, .Name z p2] kt p3] (.Tuple [a, b, c] k2 pt2) X.env = pure (some [x, y, z]) := by rfl)
    (hs : swapsWithSole [.Tuple [.Name x p0, .Name y p1, .Name z p2] kt p3] (.Tuple [a, b, c] k2 pt2) pos.line X.env = pure false := by rfl) :
    PS X (.Assign [.Tuple [.Name x p0, .Name y p1, .Name z p2] kt p3] (.Tuple [a, b, c] k2 pt2) pos) (tS X.K g ks (.par [i, j, l] is)) := sns_par3 cx.calm cx.nd hi hj hl hij hil hjl (lcl_of hx) (lcl_of hy) (lcl_of hz) hki hkj hkl ha hw hs
theorem s_asgT {is : List Nat} (he : PE X a (tE X.K g ia)) (hg : PG X tg (gT X.K (.tup is))) (hlen : allLt is X.N.length = true := by rfl) (hk : noneIn ks is = true := by rfl) (hs : swapsWithSole [tg] a pos.line X.env = pure false := by rfl) (hw : swappedStores [tg] a X.env = pure none := by rfl)
    (h1 : (assignEach [tg] X.env).map (·.2) = [assign tg X.env] := by rfl) : PS X (.Assign [tg] a pos) (tS X.K g ks (.asgT is ia)) := sns_asgT he hg (allLt_of hlen) (noneIn_of hk) hs hw h1
theorem s_expr (he : PE X a (tE X.K g ia)) (hs : swapsWith a none pos.line X.env = pure false := by rfl) : PS X (.Expr a pos) (tS X.K g ks (.expr ia)) := sns_expr he hs
theorem s_never : PS X st (tS X.K g ks .never) := ⟨fun _ _ _ _ _ _ ⟨Rt, env, A, rl, p⟩ => by
  have p' : PostS X.K g ks Rt _ _ A R.no _ := p
  exact p'.elim⟩
theorem s_retv (i : Nat) (hN : X.N[i]? = some x := by rfl) (hv : visB X.env.scope x = true := by rfl) (hx : okName x = true := by rfl) : PS X (.Return (some (.Name x p0)) pos) (tS X.K g ks (.retv i)) := sns_retv hN (vis_of hv) (okName_of hx).1 (okName_of hx).2.1
theorem s_app (i : Nat) (he : PE X a (tE X.K g ia)) (hN : X.N[i]? = some x := by rfl) (hv : visB X.env.scope x = true := by rfl) (hx : okName x = true := by rfl)
    (hbase : attributeBase (.Name x p0) "append" X.env (eval (.Name x p0) X.env) = eval (.Name x p0) X.env := by rfl)
    (hfew : ((backTo p2 (starEach [a] X.env)).all (fun x => !x.1) && (backToKw p2 (keywordEach [] X.env)).all (fun x => x.1.isSome)
      && decide ([a].length + ([] : List Keyword).length + (if ([] : List Keyword).isEmpty then 0 else 1) < 30)) = true := by rfl)
    (hline : (p1.endLine == p2.line) = true := by rfl) (hs : starEach [a] X.env = [(false, eval a X.env)] := by rfl)
    (hsw : swapsWith (.Call (.Attribute (.Name x p0) "append" p1) [a] [] p2) none pos.line X.env = pure false := by rfl) : PS X (.Expr (.Call (.Attribute (.Name x p0) "append" p1) [a] [] p2) pos) (tS X.K g ks (.app i ia)) :=
  sns_app hN (vis_of hv) (okName_of hx).1 (okName_of hx).2.1 he hbase hfew hline hs hsw
theorem s_setx (cx : Ct X g d tx) (i : Nat) (hb : PE X b (tE X.K g ib)) (he : PE X a (tE X.K g ia)) (hN : X.N[i]? = some x := by rfl) (hv : visB X.env.scope x = true := by rfl) (hx : okName x = true := by rfl)
    (hsb : ∀ v, assign (.Subscript (.Name x p0) b p1) X.env v = (do
      let ov ← holding [v] (eval (.Name x p0) X.env)
      let iv ← holding [v, ov] (eval b X.env)
      standAt p1
      holding [v, ov, iv] (setItem ov iv v)
      release [v, ov, iv] []) := by exact fun _ => rfl)
    (hs : swapsWithSole [.Subscript (.Name x p0) b p1] a pos.line X.env = pure false := by rfl) (hw : swappedStores [.Subscript (.Name x p0) b p1] a X.env = pure none := by rfl)
    (h1 : (assignEach [.Subscript (.Name x p0) b p1] X.env).map (·.2) = [assign (.Subscript (.Name x p0) b p1) X.env] := by rfl) : PS X (.Assign [.Subscript (.Name x p0) b p1] a pos) (tS X.K g ks (.setx i ib ia)) :=
  sns_setx cx.un hN (vis_of hv) (okName_of hx).1 (okName_of hx).2.1 hb he hsb hs hw h1
theorem s_for {iter : Expr} {body : List Stmt} {tgi : Tg} {it : Ev.It} {sb : Ss} (cx : Ct X g d tx) (hp : PassesOwn (model X.prog X.w) X.A X.env X.xe) (hi : PI X tg iter (tI X.K g it)) (hg : PG X tg (gT X.K tgi)) (hb : PSs X body (tSs X.K g ks sb))
    (hlen : allLt (tgs tgi) X.N.length = true := by rfl) (hk : noneIn ks (tgs tgi) = true := by rfl) (hs : ∀ x, foldedSetIterable iter X.env x = pure x := by exact fun _ => rfl) : PS X (.For tg iter body [] pos) (tS X.K g ks (.for_ tgi it sb)) :=
  sns_for hp cx.calm hi hg hb (allLt_of hlen) (noneIn_of hk) hs
/-! ### defs without arguments, static methods, methods, properties -/
theorem e_call0 (cx : Ct X g d tx) (f : Nat) (hf : tx.fs[f]? = some (some (.glo x, [], 0)) := by rfl) (hg : glB X.env x = true := by rfl) (hx : okName x = true := by rfl) : PE X (.Call (.Name x p0) [] [] pos) (tE X.K g (.call f .nil [])) :=
  snd_call0 (dvs := []) (cx.fnC hf) (cx.room.mono (Nat.le_succ _)) cx.tk (gl_of hg) rfl (okName_of hx).1
theorem e_stat0 {pl : Sem Bool} (cx : Ct X g d tx) (f j1 j2 : Nat) (hf : tx.fs[f]? = some (some (.stat nm m, [], 0)) := by rfl) (h1 : tx.fa[j1]? = some (.glo nm) := by rfl) (h2 : tx.fa[j2]? = some (.stat nm m) := by rfl) (hg : glB X.env nm = true := by rfl) (hx : okName nm = true := by rfl)
    (ht : eval (.Call (.Attribute (.Name nm p0) m apos) [] [] pos) X.env = (do
      let ov ← eval (.Name nm p0) X.env
      standAt apos.atName
      let (f, first) ← holding [ov] (getMethod ov m pl)
      callWith pos f first (backTo pos (starEach [] X.env)) (backToKw pos (keywordEach [] X.env))) := by rfl) : PE X (.Call (.Attribute (.Name nm p0) m apos) [] [] pos) (tE X.K g (.call f .nil [])) :=
  snd_stat0 (cx.fc j1 _ h1) (gl_of hg) (okName_of hx).1 (cx.fc j2 _ h2) (cx.fn f _ _ _ hf) (cx.room.mono (Nat.le_succ _)) cx.tk ht
theorem e_stat {pl : Sem Bool} (cx : Ct X g d tx) (f j1 j2 : Nat) {io : List Nat} {n : Nat} (ha : PA X (a :: es) (tA X.K g as)) (hf : tx.fs[f]? = some (some (.stat nm m, io, n)) := by rfl) (h1 : tx.fa[j1]? = some (.glo nm) := by rfl) (h2 : tx.fa[j2]? = some (.stat nm m) := by rfl) (hg : glB X.env nm = true := by rfl) (hx : okName nm = true := by rfl)
    (hio : ioPos 0 as = io := by rfl) (hn : Nat.beq as.len n = true := by rfl) (hl : Nat.beq as.len (es.length + 1) = true := by rfl) (he : starEach (a :: es) X.env = (false, eval a X.env) :: starEach es X.env := by rfl) (hpl : (backTo pos (starEach es X.env)).any (·.1) = false := by rfl)
    (ht : eval (.Call (.Attribute (.Name nm p0) m apos) (a :: es) [] pos) X.env = (do
      let ov ← eval (.Name nm p0) X.env
      standAt apos.atName
      let (f, first) ← holding [ov] (getMethod ov m pl)
      callWith pos f first (backTo pos (starEach (a :: es) X.env)) (backToKw pos (keywordEach [] X.env))) := by rfl) : PE X (.Call (.Attribute (.Name nm p0) m apos) (a :: es) [] pos) (tE X.K g (.call f as [])) :=
  snd_stat (cx.fc j1 _ h1) (gl_of hg) (okName_of hx).1 (cx.fc j2 _ h2) (cx.fn f _ _ _ hf) (cx.room.mono (Nat.le_succ _)) cx.tk hio ((Nat.eq_of_beq_eq_true hl).symm.trans (Nat.eq_of_beq_eq_true hn)) ha (fun vs σ h => (vsAt_len as vs h).trans (Nat.eq_of_beq_eq_true hl)) he hpl ht
theorem e_meth {pl : Sem Bool} (cx : Ct X g d tx) (f j1 j2 : Nat) {io : List Nat} {n : Nat} (ho : PE X o (tE X.K g ia)) (ha : PA X (a :: es) (tA X.K g as)) (hf : tx.fs[f]? = some (some (.met nm m, io, n)) := by rfl) (h1 : tx.fa[j1]? = some (.cls nm) := by rfl) (h2 : tx.fa[j2]? = some (.meth nm m) := by rfl)
    (hio : ioPos 1 as = io := by rfl) (hn : Nat.beq (as.len + 1) n = true := by rfl) (hl : Nat.beq as.len (es.length + 1) = true := by rfl) (he : starEach (a :: es) X.env = (false, eval a X.env) :: starEach es X.env := by rfl) (hpl : (backTo pos (starEach es X.env)).any (·.1) = false := by rfl)
    (ht : eval (.Call (.Attribute o m apos) (a :: es) [] pos) X.env = (do
      let ov ← eval o X.env
      standAt apos.atName
      let (f, first) ← holding [ov] (getMethod ov m pl)
      callWith pos f first (backTo pos (starEach (a :: es) X.env)) (backToKw pos (keywordEach [] X.env))) := by rfl) : PE X (.Call (.Attribute o m apos) (a :: es) [] pos) (tE X.K g (.meth nm m f ia as [])) :=
  snd_meth ho (cx.fc j1 _ h1) (cx.fc j2 _ h2) (cx.fn f _ _ _ hf) (cx.room.mono (Nat.le_succ _)) cx.tk hio (by
    have h1 := Nat.eq_of_beq_eq_true hl
    have h2 := Nat.eq_of_beq_eq_true hn
    omega) ha (fun vs σ h => (vsAt_len as vs h).trans (Nat.eq_of_beq_eq_true hl)) he hpl ht
theorem e_meth0 {pl : Sem Bool} (cx : Ct X g d tx) (f j1 j2 : Nat) (ho : PE X o (tE X.K g ia)) (hf : tx.fs[f]? = some (some (.met nm m, [], 1)) := by rfl) (h1 : tx.fa[j1]? = some (.cls nm) := by rfl) (h2 : tx.fa[j2]? = some (.meth nm m) := by rfl)
    (ht : eval (.Call (.Attribute o m apos) [] [] pos) X.env = (do
      let ov ← eval o X.env
      standAt apos.atName
      let (f, first) ← holding [ov] (getMethod ov m pl)
      callWith pos f first (backTo pos (starEach [] X.env)) (backToKw pos (keywordEach [] X.env))) := by rfl) : PE X (.Call (.Attribute o m apos) [] [] pos) (tE X.K g (.meth nm m f ia .nil [])) :=
  snd_meth0 ho (cx.fc j1 _ h1) (cx.fc j2 _ h2) (cx.fn f _ _ _ hf) (cx.room.mono (Nat.le_succ _)) cx.tk ht
theorem e_prop (cx : Ct X g d tx) (f j1 j2 : Nat) (ho : PE X o (tE X.K g ia)) (hf : tx.fs[f]? = some (some (.prop nm m, [], 1)) := by rfl) (h1 : tx.fa[j1]? = some (.cls nm) := by rfl) (h2 : tx.fa[j2]? = some (.prop nm m) := by rfl) (hab : attributeBase o m X.env (eval o X.env) = eval o X.env := by rfl) :
    PE X (.Attribute o m pos) (tE X.K g (.prop nm f ia)) := snd_prop ho (cx.fc j1 _ h1) (cx.fc j2 _ h2) (cx.fn f _ _ _ hf) cx.room hab
theorem e_fld (cx : Ct X g d tx) (j1 j2 : Nat) (ho : PE X o (tE X.K g ia)) (h1 : tx.fa[j1]? = some (.cls nm) := by rfl) (h2 : tx.fa[j2]? = some (.noat nm m) := by rfl) (hab : attributeBase o m X.env (eval o X.env) = eval o X.env := by rfl) : PE X (.Attribute o m pos) (tE X.K g (.fld nm m ia)) :=
  snd_fld (cx.fc j1 _ h1) (cx.fc j2 _ h2) ho hab
theorem e_fldv (cx : Ct X g d tx) (j1 j2 i : Nat) (h1 : tx.fa[j1]? = some (.cls nm) := by rfl) (h2 : tx.fa[j2]? = some (.noat nm m) := by rfl) (hN : X.N[i]? = some x := by rfl) (hv : visB X.env.scope x = true := by rfl) (hx : okName x = true := by rfl) (hab : attributeBase (.Name x p0) m X.env (eval (.Name x p0) X.env) = eval (.Name x p0) X.env := by rfl) :
    PE X (.Attribute (.Name x p0) m pos) (tE X.K g (.fldv nm m i)) := snd_fldv (cx.fc j1 _ h1) (cx.fc j2 _ h2) hN (vis_of hv) (okName_of hx).1 (okName_of hx).2.1 hab
/-! ### own operators -/
theorem e_own (cx : Ct X g d tx) (f j : Nat) (he : PE X a (tE X.K g ia)) (hb : PE X b (tE X.K g ib)) (hf : tx.fs[f]? = some (some (.met nm "__getitem__", [], 2)) := by rfl) (h : tx.fa[j]? = some (.op nm "__getitem__") := by rfl)
    (hsl : ∀ v u, subscripted b true v u = runValue (.builtin "lifetime.subscript" ⟨[v, u], []⟩) := by exact fun _ _ => rfl) : PE X (.Subscript a b pos) (tE X.K g (.own nm f ia ib)) := by
  obtain ⟨h1, h2, h3⟩ := cx.fc j _ h
  exact snd_ownS he hb h1 h2 h3 (cx.fn f _ _ _ hf) cx.room cx.tk hsl
theorem e_ownB {op : Operator} (cx : Ct X g d tx) (f j1 j2 : Nat) (he : PE X a (tE X.K g ia)) (hb : PE X b (tE X.K g ib)) (hf : tx.fs[f]? = some (some (.met nm (PySem.dunder op.info.2), [], 2)) := by rfl) (h1 : tx.fa[j1]? = some (.slf nm) := by rfl) (h2 : tx.fa[j2]? = some (.op nm (PySem.dunder op.info.2)) := by rfl) :
    PE X (.BinOp a op b pos) (tE X.K g (.ownB nm f ia ib)) := by
  obtain ⟨q1, q2, q3⟩ := cx.fc j2 _ h2
  exact snd_ownB he hb (cx.fc j1 _ h1) q1 q3 (cx.fn f _ _ _ hf) (cx.room.mono (Nat.le_succ _)) cx.tk
theorem e_ownE {cs : List Str} (cx : Ct X g d tx) (f j1 j2 : Nat) (he : PE X a (tE X.K g ia)) (hb : PE X b (tE X.K g ib)) (hf : tx.fs[f]? = some (some (.met nm "__eq__", [], 2)) := by rfl) (h1 : tx.fa[j1]? = some (.isc nm cs) := by rfl) (h2 : tx.fa[j2]? = some (.op nm "__eq__") := by rfl) (hm : behindInMarks .Eq b = false := by rfl) :
    PE X (.Compare a [.Eq] [b] pos) (tE X.K g (.ownE nm cs f ia ib)) := by
  obtain ⟨q1, q2, q3⟩ := cx.fc j2 _ h2
  exact snd_ownE (cx.fc j1 _ h1) he hb q1 q3 (cx.fn f _ _ _ hf) (cx.room.mono (Nat.le_succ _)) cx.tk hm
theorem e_ownN (cx : Ct X g d tx) (f j1 j2 : Nat) (he : PE X a (tE X.K g ia)) (hb : PE X b (tE X.K g ib)) (hf : tx.fs[f]? = some (some (.met nm "__eq__", [], 2)) := by rfl) (h1 : tx.fa[j1]? = some (.ne nm) := by rfl) (h2 : tx.fa[j2]? = some (.op nm "__eq__") := by rfl) (hm : behindInMarks .NotEq b = false := by rfl) :
    PE X (.Compare a [.NotEq] [b] pos) (tE X.K g (.ownN nm f ia ib)) := by
  obtain ⟨q1, q2, q3⟩ := cx.fc j2 _ h2
  obtain ⟨z1, z2⟩ := cx.fc j1 _ h1
  exact snd_ownN he hb z1 q1 q3 z2 (cx.fn f _ _ _ hf) cx.room cx.un cx.tk hm
theorem e_isc {cs : List Str} (cx : Ct X g d tx) (j1 j2 : Nat) (ha : PE X a (tE X.K g ia)) (h1 : tx.fa[j1]? = some (.isc nm cs) := by rfl) (h2 : tx.fa[j2]? = some (.glo nm) := by rfl) (hg : glB X.env "isinstance" = true := by rfl) (hm : tx.bl.contains "isinstance" = true := by rfl) (hgx : glB X.env nm = true := by rfl) (hx : okName nm = true := by rfl)
    (hs : starEach [a, .Name nm p1] X.env = (false, eval a X.env) :: starEach [.Name nm p1] X.env := by rfl) : PE X (.Call (.Name "isinstance" p0) [a, .Name nm p1] [] pos) (tE X.K g (.isc nm cs ia)) :=
  snd_isc (cx.fc j1 _ h1) (gl_of hg) (cx.bl _ hm) (gl_of hgx) (cx.fc j2 _ h2) (okName_of hx).1 ha hs
/-! ### makings -/
theorem k_nil : PK X [] (tEs X.K g .nil) := snk_nil
theorem k_cons {n1 : Option Str} {kpos : Pos} {e : Expr} {kws : List Keyword} (he : PE X e (tE X.K g ia)) (hs : PK X kws (tEs X.K g is)) : PK X (⟨n1, e, kpos⟩ :: kws) (tEs X.K g (.cons ia is)) := snk_cons he hs
theorem e_new {kws : List Keyword} {m : MkI} (cx : Ct X g d tx) (i j : Nat) (ha : PA X (a :: es) (tEs X.K g is)) (hk : PK X kws (tEs X.K g js)) (hi : tx.mks[i]? = some m := by rfl) (h : tx.fa[j]? = some (.glo m.c) := by rfl) (hg : glB X.env m.c = true := by rfl) (hx : okName m.c = true := by rfl)
    (hn : Nat.beq m.np (es.length + 1) = true := by rfl) (la : Nat.beq (esLen is) (es.length + 1) = true := by rfl) (lk : Nat.beq (esLen js) m.ks.length = true := by rfl) (hall : (backToKw pos (keywordEach kws X.env)).all (·.1.isSome) = true := by rfl) (hks : (backToKw pos (keywordEach kws X.env)).filterMap (·.1) = m.ks := by rfl)
    (he : starEach (a :: es) X.env = (false, eval a X.env) :: starEach es X.env := by rfl) (hpl : ((backTo pos (starEach (a :: es) X.env)).any (·.1) || (backToKw pos (keywordEach kws X.env)).any (·.1.isNone)) = false := by rfl) :
    PE X (.Call (.Name m.c p0) (a :: es) kws pos) (tE X.K g (.new m.c m.f is js m.ar)) := by
  have M := cx.mks i m hi
  rw [Nat.eq_of_beq_eq_true hn] at M
  exact snd_new M cx.room cx.tk (gl_of hg) (cx.fc j _ h) ha hk (Nat.eq_of_beq_eq_true la) (Nat.eq_of_beq_eq_true lk) hall hks (okName_of hx).1 he hpl
theorem e_newst {f : Nat} (cx : Ct X g d tx) (i j : Nat) (ha : PE X a (tE X.K g ia)) (hi : tx.ms[i]? = some (nm, f) := by rfl) (h : tx.fa[j]? = some (.glo nm) := by rfl) (hg : glB X.env nm = true := by rfl) (hx : okName nm = true := by rfl) (hst : starEach [.Starred a p1] X.env = [(true, eval a X.env)] := by rfl) :
    PE X (.Call (.Name nm p0) [.Starred a p1] [] pos) (tE X.K g (.newst nm f ia)) := snd_newst (cx.ms i _ _ hi) cx.room cx.tk (gl_of hg) (cx.fc j _ h) ha (okName_of hx).1 hst
theorem e_newdd {kp : Pos} {m : MkI} (cx : Ct X g d tx) (i j : Nat) (ha : PA X (a :: es) (tEs X.K g is)) (hb : PE X b (tE X.K g ib)) (hi : tx.mks[i]? = some m := by rfl) (h : tx.fa[j]? = some (.glo m.c) := by rfl) (hg : glB X.env m.c = true := by rfl) (hx : okName m.c = true := by rfl) (hn : Nat.beq m.np (es.length + 1) = true := by rfl)
    (la : Nat.beq (esLen is) (es.length + 1) = true := by rfl) (he : starEach (a :: es) X.env = (false, eval a X.env) :: starEach es X.env := by rfl) (hkw : keywordEach [⟨none, b, kp⟩] X.env = [(none, eval b X.env)] := by rfl) :
    PE X (.Call (.Name m.c p0) (a :: es) [⟨none, b, kp⟩] pos) (tE X.K g (.newdd m.c m.f is ib m.ks m.ar)) := by
  have M := cx.mks i m hi
  rw [Nat.eq_of_beq_eq_true hn] at M
  exact snd_newdd M cx.room cx.tk (gl_of hg) (cx.fc j _ h) ha hb (Nat.eq_of_beq_eq_true la) (okName_of hx).1 he hkw
/-! ### dicts -/
theorem e_deq (cx : Ct X g d tx) (ha : PE X a (tE X.K g ia)) (hb : PE X b (tE X.K g ib)) (hm : behindInMarks .Eq b = false := by rfl) : PE X (.Compare a [.Eq] [b] pos) (tE X.K g (.deq ia ib)) := snd_deq cx.room ha hb hm
theorem e_kin {ks : List Str} {ts : List T} (cx : Ct X g d tx) (n j : Nat) (ha : PE X a (tE X.K g ia)) (hc : tx.cs[n]? = some (x, .nd (.dct (inrs ks)) ts) := by rfl) (h : tx.fa[j]? = some (.menu x ks ts) := by rfl) (hg : glB X.env x = true := by rfl) (hx : okName x = true := by rfl) (hb : behindInMarks .In (.Name x p0) = false := by rfl) :
    PE X (.Compare a [.In] [.Name x p0] pos) (tE X.K g (.kin n ia)) := snd_kin (cx.gG hc) (cx.fc j _ h).2 (cx.fc j _ h).1 (gl_of hg) (okName_of hx).1 ha hb
theorem e_kget {ks : List Str} {ts : List T} (cx : Ct X g d tx) (n j : Nat) (ha : PE X a (tE X.K g ia)) (hc : tx.cs[n]? = some (x, .nd (.dct (inrs ks)) ts) := by rfl) (h : tx.fa[j]? = some (.menu x ks ts) := by rfl) (hg : glB X.env x = true := by rfl) (hx : okName x = true := by rfl) (hs : PlainIx a := by exact fun _ _ => rfl) :
    PE X (.Subscript (.Name x p0) a pos) (tE X.K g (.kget n ia)) := snd_kget (cx.gG hc) (cx.fc j _ h).2 (cx.fc j _ h).1 (gl_of hg) (okName_of hx).1 ha hs
theorem i_kk {tg : Expr} {ks : List Str} {ts : List T} (cx : Ct X g d tx) (n j : Nat) (hc : tx.cs[n]? = some (x, .nd (.dct (inrs ks)) ts) := by rfl) (h : tx.fa[j]? = some (.menu x ks ts) := by rfl) (hg : glB X.env x = true := by rfl) (hx : okName x = true := by rfl) : PI X tg (.Name x p0) (tI X.K g (.kk n)) :=
  sni_kk (cx.gG hc) (cx.fc j _ h).2 (cx.fc j _ h).1 (gl_of hg) (okName_of hx).1
theorem e_klist {ks : List Str} {ts : List T} (cx : Ct X g d tx) (n j : Nat) (hc : tx.cs[n]? = some (x, .nd (.dct (inrs ks)) ts) := by rfl) (h : tx.fa[j]? = some (.menu x ks ts) := by rfl) (hz : Nat.ble ks.length 16777216 = true := by rfl) (hg : glB X.env x = true := by rfl) (hx : okName x = true := by rfl) (hgl : glB X.env "list" = true := by rfl) (hml : tx.bl.contains "list" = true := by rfl)
    (hs : starEach [.Name x p1] X.env = (false, eval (.Name x p1) X.env) :: starEach [] X.env := by rfl) : PE X (.Call (.Name "list" p0) [.Name x p1] [] pos) (tE X.K g (.klist n)) :=
  snd_klist cx.calm (cx.gG hc) (cx.fc j _ h).2 (Nat.le_of_ble_eq_true hz) (cx.fc j _ h).1 (gl_of hg) (okName_of hx).1 (gl_of hgl) (cx.bl _ hml) hs
theorem i_keys {tg : Expr} (ha : PE X a (tE X.K g ia)) : PI X tg a (tI X.K g (.keys ia)) := sni_keys ha
theorem i_keysv {tg : Expr} (i : Nat) (hN : X.N[i]? = some x := by rfl) (hv : visB X.env.scope x = true := by rfl) (hx : okName x = true := by rfl) : PI X tg (.Name x pos) (tI X.K g (.keysv i)) := sni_keysv hN (vis_of hv) (okName_of hx).1 (okName_of hx).2.1
theorem e_items (cx : Ct X g d tx) (he : PE X a (tE X.K g ia)) (hg : glB X.env "list" = true := by rfl) (hm : tx.bl.contains "list" = true := by rfl) (hbase : attributeBase a "items" X.env (eval a X.env) = eval a X.env := by rfl) (hline : (apos.endLine == cpos.line) = true := by rfl)
    (hs : starEach [.Call (.Attribute a "items" apos) [] [] cpos] X.env = (false, eval (.Call (.Attribute a "items" apos) [] [] cpos) X.env) :: starEach [] X.env := by rfl) : PE X (.Call (.Name "list" p0) [.Call (.Attribute a "items" apos) [] [] cpos] [] pos) (tE X.K g (.items ia)) :=
  snd_items cx.calm he (gl_of hg) (cx.bl _ hm) hbase hline hs
theorem e_dict (cx : Ct X g d tx) (hs : PA X (a :: es) (tEs X.K g is)) (hg : glB X.env "dict" = true := by rfl) (hm : tx.bl.contains "dict" = true := by rfl) (he : starEach (a :: es) X.env = (false, eval a X.env) :: starEach es X.env := by rfl) (hpl : (backTo pos (starEach es X.env)).any (·.1) = false := by rfl) :
    PE X (.Call (.Name "dict" p0) (a :: es) [] pos) (tE X.K g (.bi .dict is)) := bt cx hs hg hm (by decide) he hpl (bi_dict cx.calm) (by decide +kernel) fun _ => rfl
theorem e_dct {keys : List (Option Expr)} {vals : List Expr} {js : List Key} (h : PPs X pos keys vals (trsOf X.K g js is)) (hall : keys.all (·.isSome) = true := by rfl) (hl : keys.length = vals.length := by rfl) (h0 : keys ≠ [] := by exact fun z => by cases z) (h15 : Nat.ble keys.length 15 = true := by rfl)
    (hj : js.length = lenEs is := by rfl) (nd : js.Nodup := by decide) : PE X (.Dict keys vals pos) (tE X.K g (.dct js is)) := snd_dct h hall hl h0 (Nat.le_of_ble_eq_true h15) hj nd
/-! ### slots that are changed -/
theorem e_popv (i : Nat) (he : PE X a (tE X.K g ia)) (hN : X.N[i]? = some x := by rfl) (hv : visB X.env.scope x = true := by rfl) (hx : okName x = true := by rfl) (hbase : attributeBase (.Name x p0) "pop" X.env (eval (.Name x p0) X.env) = eval (.Name x p0) X.env := by rfl)
    (hfew : ((backTo cpos (starEach [a] X.env)).all (fun x => !x.1) && (backToKw cpos (keywordEach [] X.env)).all (fun x => x.1.isSome)
      && decide ([a].length + ([] : List Keyword).length + (if ([] : List Keyword).isEmpty then 0 else 1) < 30)) = true := by rfl)
    (hline : (apos.endLine == cpos.line) = true := by rfl) (hs : starEach [a] X.env = [(false, eval a X.env)] := by rfl) : PE X (.Call (.Attribute (.Name x p0) "pop" apos) [a] [] cpos) (tE X.K g (.popv i ia)) :=
  snd_popv hN (vis_of hv) (okName_of hx).1 (okName_of hx).2.1 he hbase hfew hline hs
theorem e_lenv (cx : Ct X g d tx) (i : Nat) (hg : glB X.env "len" = true := by rfl) (hm : tx.bl.contains "len" = true := by rfl) (hN : X.N[i]? = some x := by rfl) (hv : visB X.env.scope x = true := by rfl) (hx : okName x = true := by rfl)
    (hs : starEach [.Name x p1] X.env = (false, eval (.Name x p1) X.env) :: starEach [] X.env := by rfl) : PE X (.Call (.Name "len" p0) [.Name x p1] [] pos) (tE X.K g (.lenv i)) := snd_lenv (gl_of hg) (cx.bl _ hm) hN (vis_of hv) (okName_of hx).1 (okName_of hx).2.1 hs
theorem e_cmpv {o : CmpOp} (cx : Ct X g d tx) (i : Nat) (hb : PE X b (tE X.K g ib)) (hN : X.N[i]? = some x := by rfl) (hv : visB X.env.scope x = true := by rfl) (hx : okName x = true := by rfl) (hm : behindInMarks o b = false := by rfl) : PE X (.Compare (.Name x p0) [o] [b] pos) (tE X.K g (.cmpv o i ib)) :=
  snd_cmpv cx.un hN (vis_of hv) (okName_of hx).1 (okName_of hx).2.1 hb hm
theorem s_setf {ks : List Nat} {pos' : Pos} (cx : Ct X g d tx) (j1 j2 i : Nat) (he : PE X a (tE X.K g ia)) (h1 : tx.fa[j1]? = some (.cls nm) := by rfl) (h2 : tx.fa[j2]? = some (.noat nm m) := by rfl) (hN : X.N[i]? = some x := by rfl) (hv : visB X.env.scope x = true := by rfl) (hx : okName x = true := by rfl)
    (hs : swapsWith a (some (.Attribute (.Name x p0) m pos')) pos.line X.env = pure false := by rfl) : PS X (.Assign [.Attribute (.Name x p0) m pos'] a pos) (tS X.K g ks (.setf nm m i ia)) := sns_setf (cx.fc j1 _ h1) (cx.fc j2 _ h2) hN (vis_of hv) (okName_of hx).1 (okName_of hx).2.1 he hs
theorem s_appx {ks : List Nat} (i : Nat) (hb : PE X b (tE X.K g ib)) (he : PE X a (tE X.K g ia)) (hN : X.N[i]? = some x := by rfl) (hv : visB X.env.scope x = true := by rfl) (hx : okName x = true := by rfl) (hpi : PlainIx b := by exact fun _ _ => rfl)
    (hbase : attributeBase (.Subscript (.Name x p0) b p1) "append" X.env (eval (.Subscript (.Name x p0) b p1) X.env) = eval (.Subscript (.Name x p0) b p1) X.env := by rfl)
    (hfew : ((backTo cpos (starEach [a] X.env)).all (fun x => !x.1) && (backToKw cpos (keywordEach [] X.env)).all (fun x => x.1.isSome)
      && decide ([a].length + ([] : List Keyword).length + (if ([] : List Keyword).isEmpty then 0 else 1) < 30)) = true := by rfl)
    (hline : (apos.endLine == cpos.line) = true := by rfl) (hs : starEach [a] X.env = [(false, eval a X.env)] := by rfl)
    (hsw : swapsWith (.Call (.Attribute (.Subscript (.Name x p0) b p1) "append" apos) [a] [] cpos) none pos.line X.env = pure false := by rfl) :
    PS X (.Expr (.Call (.Attribute (.Subscript (.Name x p0) b p1) "append" apos) [a] [] cpos) pos) (tS X.K g ks (.appx i ib ia)) := sns_appx hN (vis_of hv) (okName_of hx).1 (okName_of hx).2.1 hb hpi he hbase hfew hline hs hsw
theorem s_clrt {ks : List Nat} (he : PE X a (tE X.K g ia)) (hbase : attributeBase a "clear" X.env (eval a X.env) = eval a X.env := by rfl) (hline : (apos.endLine == cpos.line) = true := by rfl)
    (hsw : swapsWith (.Call (.Attribute a "clear" apos) [] [] cpos) none pos.line X.env = pure false := by rfl) : PS X (.Expr (.Call (.Attribute a "clear" apos) [] [] cpos) pos) (tS X.K g ks (.clrt ia)) := sns_clrt he hbase hline hsw
theorem s_whl {ks : List Nat} {body : List Stmt} {sb : Ss} (hp : PassesOwn (model X.prog X.w) X.A X.env X.xe) (n : Nat) (hc : PT X c (tT X.K g ja)) (hb : PSs X body (tSs X.K g ks sb)) : PS X (.While c body [] pos) (tS X.K g ks (.whl n ja sb)) := sns_whl hp hc hb
/-! ### comprehensions of two clauses, sorted sets of texts -/
section
variable {elt tg iter tg1 iter1 : Expr} {ifs ifs1 : List Expr} {scope : Scope} {own own2 : List Nat} {tgi tg2 : Tg} {it it2 : Ev.It} {e : E} {cs' : Tts}
theorem e_lc2 (cx : Ct X g d tx) (own' : List (Str × Nat)) (own2 : List Nat) (hi : PI X tg iter (tI X.K g it))
    (hg : ∀ (s : Shared) (H : Hp) (C : Addr) (cl : List (Str × Addr)) (fp : List Addr), PG (X.blk s H scope (compEnvC scope cl C X.env) fp) tg (gT X.K tgi))
    (hi1 : ∀ (s : Shared) (H : Hp) (C : Addr) (cl : List (Str × Addr)) (fp : List Addr), PI (X.blk s H scope (compEnvC scope cl C X.env) fp) tg1 iter1 (tI X.K g.mute it2))
    (hg1 : ∀ (s : Shared) (H : Hp) (C : Addr) (cl : List (Str × Addr)) (fp : List Addr), PG (X.blk s H scope (compEnvC scope cl C X.env) fp) tg1 (gT X.K tg2))
    (he : ∀ (s : Shared) (H : Hp) (C : Addr) (cl : List (Str × Addr)) (fp : List Addr), PE (X.blk s H scope (compEnvC scope cl C X.env) fp) elt (tE X.K g.mute e))
    (eo : own'.map (·.2) = own := by rfl) (hv : own2.all (fun i => (own'.map (·.2)).contains i) = true := by rfl) (ok : blkB X.N X.env.scope scope own' = true := by rfl) (hlen : allLt (tgs tgi) X.N.length = true := by rfl) (hlen2 : allLt (tgs tg2) X.N.length = true := by rfl)
    (hs : ∀ x, foldedSetIterable iter X.env x = pure x := by exact fun _ => rfl) (hs1 : ∀ env x, foldedSetIterable iter1 env x = pure x := by exact fun _ _ => rfl) :
    PE X (.ListComp elt [⟨tg, iter, [], 0⟩, ⟨tg1, iter1, [], 0⟩] scope pos) (tE X.K g (.lc2 own own2 tgi it tg2 it2 e)) :=
  snd_lc2 eo (fun i hi => List.contains_iff_mem.mp (List.all_eq_true.mp hv i hi)) cx.calm cx.nd hi (blk_of ok) (allLt_of hlen) (allLt_of hlen2) hg (fun _ _ _ _ _ => ts_nil) hi1 hg1 (fun _ _ _ _ _ => ts_nil) he hs hs1
theorem s_asgLc2 {ks : List Nat} (cx : Ct X g d tx) (i : Nat) (own' : List (Str × Nat)) (own2 : List Nat) (hi : PI X tg iter (tI X.K g it))
    (hg : ∀ (s : Shared) (H : Hp) (C : Addr) (cl : List (Str × Addr)) (fp : List Addr), PG (X.blk s H scope (compEnvC scope cl C X.env) fp) tg (gT X.K tgi))
    (hi1 : ∀ (s : Shared) (H : Hp) (C : Addr) (cl : List (Str × Addr)) (fp : List Addr), PI (X.blk s H scope (compEnvC scope cl C X.env) fp) tg1 iter1 (tI X.K g.mute it2))
    (hg1 : ∀ (s : Shared) (H : Hp) (C : Addr) (cl : List (Str × Addr)) (fp : List Addr), PG (X.blk s H scope (compEnvC scope cl C X.env) fp) tg1 (gT X.K tg2))
    (he : ∀ (s : Shared) (H : Hp) (C : Addr) (cl : List (Str × Addr)) (fp : List Addr), PE (X.blk s H scope (compEnvC scope cl C X.env) fp) elt (tE X.K g.mute e))
    (hN : X.N[i]? = some x := by rfl) (hyl : lclB X.env.scope x = true := by rfl) (hk : ks.contains i = false := by rfl) (hsw : swapsWith (.ListComp elt [⟨tg, iter, [], 0⟩, ⟨tg1, iter1, [], 0⟩] scope p1) (some (.Name x p0)) pos.line X.env = pure true := by rfl)
    (eo : own'.map (·.2) = own := by rfl) (hv : own2.all (fun i => (own'.map (·.2)).contains i) = true := by rfl) (ok : blkB X.N X.env.scope scope own' = true := by rfl) (hlen : allLt (tgs tgi) X.N.length = true := by rfl) (hlen2 : allLt (tgs tg2) X.N.length = true := by rfl)
    (hs : ∀ x, foldedSetIterable iter X.env x = pure x := by exact fun _ => rfl) (hs1 : ∀ env x, foldedSetIterable iter1 env x = pure x := by exact fun _ _ => rfl) :
    PS X (.Assign [.Name x p0] (.ListComp elt [⟨tg, iter, [], 0⟩, ⟨tg1, iter1, [], 0⟩] scope p1) pos) (tS X.K g ks (.asg i (.lc2 own own2 tgi it tg2 it2 e))) :=
  sns_asgLc2 eo (fun i hi => List.contains_iff_mem.mp (List.all_eq_true.mp hv i hi)) cx.calm cx.nd hN (lcl_of hyl) hk hsw hi (blk_of ok) (allLt_of hlen) (allLt_of hlen2) hg (fun _ _ _ _ _ => ts_nil) hi1 hg1 (fun _ _ _ _ _ => ts_nil) he hs hs1
theorem e_srtX (cx : Ct X g d tx) (own' : List (Str × Nat)) (hi : PI X tg iter (tI X.K g it))
    (hg : ∀ (s : Shared) (H : Hp) (C : Addr) (cl : List (Str × Addr)) (fp : List Addr), PG (X.blk s H scope (compEnvC scope cl C X.env) fp) tg (gT X.K tgi))
    (ht : ∀ (s : Shared) (H : Hp) (C : Addr) (cl : List (Str × Addr)) (fp : List Addr), PTs (X.blk s H scope (compEnvC scope cl C X.env) fp) ifs (tTs X.K g.mute cs'))
    (he : ∀ (s : Shared) (H : Hp) (C : Addr) (cl : List (Str × Addr)) (fp : List Addr), PE (X.blk s H scope (compEnvC scope cl C X.env) fp) elt (tE X.K g.mute e))
    (eo : own'.map (·.2) = own := by rfl) (ok : blkB X.N X.env.scope scope own' = true := by rfl) (hlen : allLt (tgs tgi) X.N.length = true := by rfl) (hs : ∀ x, foldedSetIterable iter X.env x = pure x := by exact fun _ => rfl)
    (hgs : glB X.env "sorted" = true := by rfl) (hms : tx.bl.contains "sorted" = true := by rfl) (hst : starEach [.SetComp elt [⟨tg, iter, ifs, 0⟩] scope p1] X.env = (false, eval (.SetComp elt [⟨tg, iter, ifs, 0⟩] scope p1) X.env) :: starEach [] X.env := by rfl) :
    PE X (.Call (.Name "sorted" p0) [.SetComp elt [⟨tg, iter, ifs, 0⟩] scope p1] [] pos) (tE X.K g (.srtX own tgi it cs' e)) :=
  snd_srtX rfl cx.calm (gl_of hgs) (cx.bl _ hms) (snx_sc eo cx.calm cx.nd hi (blk_of ok) (allLt_of hlen) hg ht he hs) hst
end
end
end Ev
/-! Ev36: the defs of a text together, by the new context. -/
namespace Ev
open PySem L2
/-- what is known of the defs, the makings at a depth -/
structure Ih (P : Program) (w : World) (K : PySem.W.Frag) (mg : Str → Option Value) (base : Heap) (xr : XR) (C : Calls) (tx : Tx) (d : Nat) : Prop where
  fn : ∀ (i : Nat) (a : Ad) (io : List Nat) (n : Nat), tx.fs[i]? = some (some (a, io, n)) → FnA P w K mg base xr C (2 * d) i (a.at_ K) io n
  mks : ∀ (i : Nat) (m : MkI), tx.mks[i]? = some m → MkC P w K mg base xr C (2 * d) m.f m.c m.np m.ks m.ar m.ds
  ms : ∀ (i : Nat) (c : Str) (f : Nat), tx.ms[i]? = some (c, f) → MkS P w K mg base xr C (2 * d) f c
/-- what the head tells -/
structure Mg (K : PySem.W.Frag) (w : World) (mg : Str → Option Value) (tx : Tx) : Prop where
  gl : ∀ (i : Nat) (x : Str) (io : List Nat) (n : Nat), tx.fs[i]? = some (some (.glo x, io, n)) → mg x = some (.ref (He.ga K x))
  bl : ∀ x, tx.bl.contains x = true → mg x = none
  fc : ∀ (i : Nat) (f : Fb), tx.fa[i]? = some f → f.P K w mg
def Fb.isGlo (x : Str) : Fb → Bool
  | .glo y => decide (y = x)
  | _ => false
def Fb.isFree (x : Str) : Fb → Bool
  | .free y => decide (y = x)
  | _ => false
def Tx.chk (tx : Tx) : Bool := tx.fs.all (fun o => match o with
    | some (.glo x, _, _) => tx.fa.any (Fb.isGlo x)
    | _ => true) && tx.bl.all fun x => tx.fa.any (Fb.isFree x)
section
variable {P : Program} {w : World} {K : PySem.W.Frag} {mg : Str → Option Value} {base : Heap} {x qual : Str} {params : Arguments} {body : List Stmt} {scope : Scope} {dvs : List V} {kws : List (Str × V)} {f : Addr} {fd : FuncData}
variable {tx : Tx} {tab : Nat → Option FD} {xr : XR} {xm : ∀ c t H (av av' : Addr → Prop) cls d, (∀ b, av' b → av b) → xr c t H av cls d → xr c t H av' cls d} {d : Nat} {G : Nat → Option T}
theorem mg_of (fc : ∀ (i : Nat) (f : Fb), tx.fa[i]? = some f → f.P K w mg) (h : tx.chk = true) : Mg K w mg tx := by
  obtain ⟨h1, h2⟩ := ba h
  refine ⟨fun i x io n e => ?_, fun x hx => ?_, fc⟩
  · have := List.all_eq_true.mp h1 _ (List.mem_of_getElem? e)
    obtain ⟨f, hf, z⟩ := List.any_eq_true.mp (show tx.fa.any (Fb.isGlo x) = true from this)
    obtain ⟨j, hj, ej⟩ := List.mem_iff_getElem.mp hf
    have p := fc j f (List.getElem?_eq_some_iff.mpr ⟨hj, ej⟩)
    cases f with
    | glo y =>
      cases (of_decide_eq_true z : y = x)
      exact p
    | _ => cases z
  · have := List.all_eq_true.mp h2 x (List.contains_iff_mem.mp hx)
    obtain ⟨f, hf, z⟩ := List.any_eq_true.mp this
    obtain ⟨j, hj, ej⟩ := List.mem_iff_getElem.mp hf
    have p := fc j f (List.getElem?_eq_some_iff.mpr ⟨hj, ej⟩)
    cases f with
    | free y =>
      cases (of_decide_eq_true z : y = x)
      exact p
    | _ => cases z
theorem ct_of {N ps : List Str} {cdv : Value} {A : Around} {outer : List PySem.Env} {s : Shared} {H : Hp} {E : XK} (S : FnScope N ps scope) (M : Mg K w mg tx) (ih : Ih P w K mg base xr (callN (cstG tx.cs) tab d) tx d)
    (hr : Room (2 * d + 1) (A.deeper (PyProof.Rows.envOfC qual scope s.heap.objs.size f cdv))) :
    Ct (cxOf (L2.CX P w) P w K mg base N qual scope f cdv A outer s H E) (gOf (cstG tx.cs) (callN (cstG tx.cs) tab d) xr xm E) d tx :=
  ⟨rfl, S.nd, hr.units, takes_of rfl rfl rfl rfl, hr, ih.fn, M.gl, M.bl, M.fc, rfl, ih.mks, ih.ms⟩
theorem own_of {N : List Str} {cdv : Value} {A : Around} {outer : List PySem.Env} {s : Shared} {H : Hp} {E : XK} : PassesOwn (model P w) (cxOf (L2.CX P w) P w K mg base N qual scope f cdv A outer s H E).A (cxOf (L2.CX P w) P w K mg base N qual scope f cdv A outer s H E).env (cxOf (L2.CX P w) P w K mg base N qual scope f cdv A outer s H E).xe :=
  passes_of (X := cxOf (L2.CX P w) P w K mg base N qual scope f cdv A outer s H E) rfl
/-- the body of a def, at a depth -/
abbrev Bd (P : Program) (w : World) (K : PySem.W.Frag) (mg : Str → Option Value) (base : Heap) (xr : XR) (xm : ∀ c t H (av av' : Addr → Prop) cls d, (∀ b, av' b → av b) → xr c t H av cls d → xr c t H av' cls d) (G : Nat → Option T) (tab : Nat → Option FD) (d : Nat) (N : List Str) (qual : Str) (scope : Scope) (f : Addr) (body : List Stmt) (fd0 : FD) : Prop :=
  ∀ (cdv : Value) (A : Around) (outer : List PySem.Env) (s : Shared) (H : Hp) (E : XK), Room (2 * d + 1) (A.deeper (PyProof.Rows.envOfC qual scope s.heap.objs.size f cdv)) →
    PSs (cxOf (L2.CX P w) P w K mg base N qual scope f cdv A outer s H E) body (tSs K (gOf G (callN G tab d) xr xm E) fd0.io fd0.body)
theorem mkA {N ps : List Str} {i n : Nat} {io : List Nat} {fd0 : FD} (F : FunD K x qual params body scope [] kws f fd) (S : FnScope N ps scope)
    (ht : tab i = some fd0) (hnp : Nat.beq fd0.np ps.length = true) (hns : Nat.beq fd0.ns N.length = true) (hn : Nat.beq n ps.length = true) (ei : fd0.io = io) (hnd : fd0.io.Nodup) (hio : allLt fd0.io fd0.np = true)
    (bd : ∀ (kV doc pm : Value) (an : Option Addr) (cdv ct : Value) (us : List Value), us.length = ps.length → bindArgs (PySem.W.fnOf x qual params body scope .none kV doc pm an cdv ct) ⟨us, []⟩ = pure (ps.zip us))
    (hb : Bd P w K mg base xr xm G tab d N qual scope f body fd0) : FnA P w K mg base xr (callN G tab (d + 1)) (2 * (d + 1)) i f io n := by
  subst ei
  rw [Nat.eq_of_beq_eq_true hn]
  exact ⟨fd, ps, fn_succ (k := 2 * d + 1) F S ht (Nat.eq_of_beq_eq_true hnp) (Nat.eq_of_beq_eq_true hns) hnd (allLt_of hio) hb, F.kp, F.bindsN bd⟩
theorem mkA0 {ps : List Str} {i n : Nat} {io : List Nat} (F : FunD K x qual params body scope [] kws f fd) (hn : Nat.beq n ps.length = true)
    (bd : ∀ (kV doc pm : Value) (an : Option Addr) (cdv ct : Value) (us : List Value), us.length = ps.length → bindArgs (PySem.W.fnOf x qual params body scope .none kV doc pm an cdv ct) ⟨us, []⟩ = pure (ps.zip us)) :
    FnA P w K mg base xr (callN G tab 0) (2 * 0) i f io n := by
  rw [Nat.eq_of_beq_eq_true hn]
  exact ⟨fd, ps, fn_zero rfl, F.kp, F.bindsN bd⟩
theorem mkM {N ps : List Str} {c : Str} {i np : Nat} {ks : List Str} {ar : List Ar} {ds : List T} {fd0 : FD} (hm : L2.Mk K (He.ga K c) f) (F : FunD K x qual params body scope [] kws f fd) (S : FnScope N ps scope)
    (ht : tab i = some fd0) (hnp : Nat.beq fd0.np ps.length = true) (hns : Nat.beq fd0.ns N.length = true) (hn : Nat.beq ps.length (ar.length + 1) = true) (ei : fd0.io = [0]) (hnd : fd0.io.Nodup) (hio : allLt fd0.io fd0.np = true)
    (kb : ∃ mv : List Value, KBn K fd ps (np + 1) ks (fun us ws => gA ar us mv ws) (fun vs zs => gA ar vs (ds.map litV) zs)) (ok : ArOk ds ar)
    (hb : Bd P w K mg base xr xm G tab d N qual scope f body fd0) : MkC P w K mg base xr (callN G tab (d + 1)) (2 * (d + 1)) i c np ks ar ds := by
  obtain ⟨mv, kb⟩ := kb
  refine ⟨⟨f, fd, ps, mv, hm, ?_, kb⟩, ok⟩
  have z := fn_succ (k := 2 * d + 1) F S ht (Nat.eq_of_beq_eq_true hnp) (Nat.eq_of_beq_eq_true hns) hnd (allLt_of hio) hb
  rw [ei, Nat.eq_of_beq_eq_true hn] at z
  exact z
theorem mkM0 {ps : List Str} {c : Str} {i np : Nat} {ks : List Str} {ar : List Ar} {ds : List T} (hm : L2.Mk K (He.ga K c) f) (F : FunD K x qual params body scope [] kws f fd) (hn : Nat.beq ps.length (ar.length + 1) = true)
    (kb : ∃ mv : List Value, KBn K fd ps (np + 1) ks (fun us ws => gA ar us mv ws) (fun vs zs => gA ar vs (ds.map litV) zs)) (ok : ArOk ds ar) : MkC P w K mg base xr (callN G tab 0) (2 * 0) i c np ks ar ds := by
  obtain ⟨mv, kb⟩ := kb
  exact ⟨⟨f, fd, ps, mv, hm, fn_zero (Nat.eq_of_beq_eq_true hn).symm, kb⟩, ok⟩
theorem mkR {N ps : List Str} {pv : Str} {c : Str} {i : Nat} {fd0 : FD} (hm : L2.Mk K (He.ga K c) f) (F : FunD K x qual params body scope [] kws f fd) (S : FnScope N (ps ++ [pv]) scope)
    (ht : tab i = some fd0) (h1 : Nat.beq ps.length 1 = true) (hnp : Nat.beq fd0.np 2 = true) (hns : Nat.beq fd0.ns N.length = true) (ei : fd0.io = [0])
    (bd : ∀ (kV doc pm : Value) (an : Option Addr) (cdv ct : Value) (us rest : List Value), us.length = ps.length → bindArgs (PySem.W.fnOf x qual params body scope .none kV doc pm an cdv ct) ⟨us ++ rest, []⟩ = (newTuple rest >>= fun t => pure (ps.zip us ++ [(pv, t)])))
    (hb : Bd P w K mg base xr xm G tab d N qual scope f body fd0) : MkS P w K mg base xr (callN G tab (d + 1)) (2 * (d + 1)) i c := by
  have e1 := Nat.eq_of_beq_eq_true h1
  have e2 := Nat.eq_of_beq_eq_true hnp
  have z := fn_row (k := 2 * d + 1) F S ht (by rw [e2, e1]) (Nat.eq_of_beq_eq_true hns) (by rw [ei]; simp) (by rw [ei, e2]; simp) bd hb
  rw [e1, ei] at z
  exact ⟨f, hm, z⟩
theorem mkR0 {c : Str} {i : Nat} (hm : L2.Mk K (He.ga K c) f) : MkS P w K mg base xr (callN G tab 0) (2 * 0) i c := ⟨f, hm, fn_row0⟩
end
end Ev
/-! Ev37: any comparison as a test. -/
namespace Ev
open PySem L2
theorem isTrue_cmp1 {a b : Expr} {o : CmpOp} {pos : Pos} {env : PySem.Env} {wh : Sem Value} : isTrue (.Compare a [o] [b] pos) env wh = (eval (.Compare a [o] [b] pos) env >>= fun c => holding [c] (truthy c)) := by
  simp only [isTrue_Compare1, eval_Compare1, bind_assoc]
section
variable {X : Cx} {g : Cfg} {pos : Pos} {a b : Expr} {o : CmpOp} {ia : E}
theorem pt_cmp1 {ta : TE} (ha : PE X (.Compare a [o] [b] pos) ta) : PT X (.Compare a [o] [b] pos) (fun σ H Q => ta σ H fun x H' => ∃ k, TruV X.K x H' k ∧ Q k H') := by
  refine ⟨fun pins s σ H Q I h => ?_⟩
  rw [isTrue_cmp1]
  exact wpAny_bind (thn (ha.run pins s σ H _ I h) fun v s1 ⟨x, H1, I1, r1, q1⟩ => wpAny_holding (tru_ok pins s1 σ H1 x v Q I1 r1 q1))
theorem t_pe (ha : PE X (.Compare a [o] [b] pos) (tE X.K g ia)) : PT X (.Compare a [o] [b] pos) (tT X.K g (.v ia)) :=
  PT.imp (pt_cmp1 ha) fun σ H Q ⟨Rt, env, A, rl, p⟩ => by
    refine ⟨Rt, env, A, rl, Post.seq p fun x e1 v1 H1 A1 B1 s1 o1 p1 => ?_⟩
    obtain ⟨k, ek, p2⟩ := Post.of p1
    exact ⟨k, tru_all (s1.fz0 o1) ek, p2 k H1 A1 [] s1.drop0 ⟨rfl, rfl⟩⟩
end
end Ev
/-! EvQ: the equations of the evaluator, one a constructor. -/
namespace Ev
open PySem L2
section
variable {G : Nat → Option T} {C : Calls} {env : Env}
theorem qE_int {i} : evE G C (.int i) env = (.ok (.val (.int i)) env : R (W)) := rfl
theorem qE_bl {b} : evE G C (.bl b) env = (.ok (.val (.bl b)) env : R (W)) := rfl
theorem qE_non : evE G C (.non) env = (.ok (.val .non) env : R (W)) := rfl
theorem qE_str {x} : evE G C (.str x) env = (.ok (.val (.str x)) env : R (W)) := rfl
theorem qE_cst {g} : evE G C (.cst g) env = (R.of ((G g).map .val) env : R (W)) := rfl
theorem qE_rd {i} : evE G C (.rd i) env = ((match env[i]? with
    | some (some w) => .ok (.val w.fz) (env.set i (some (.val w.fz)))
    | _ => .no) : R (W)) := rfl
theorem qE_rdx {i} {e} : evE G C (.rdx i e) env = ((match env[i]? with
    | some (some _) => (evE G C e env).bind fun k env1 => (match env1[i]? with
      | some (some (.val a)) => R.of ((ixT a k.fz).map .val) env1
      | some (some (.lst ws)) => (match k.fz with
        | .int j => (match atI ws j with
          | some (.val t) => .ok (.val t) env1
          | _ => .no)
        | _ => .no)
      | some (some (.nd (.dct ks) ws)) => (match (keyT k.fz).bind (getN ks ws) with
        | some (.val t) => .ok (.val t) env1
        | _ => .no)
      | _ => .no)
    | _ => .no) : R (W)) := rfl
theorem qE_op {o} {a} {b} : evE G C (.op o a b) env = ((evE G C a env).bind fun x env1 => (evE G C b env1).bind fun y env2 => R.of (opT o x.fz y.fz) env2 : R (W)) := rfl
theorem qE_neg {a} : evE G C (.neg a) env = ((evE G C a env).bind fun x env1 => (match x.fz with
    | .int i => .ok (.val (.int (-i))) env1
    | _ => .no) : R (W)) := rfl
theorem qE_cmp {o : CmpOp} {a} {b} : evE G C (.cmp o a b) env = ((evE G C a env).bind fun x env1 => (evE G C b env1).bind fun y env2 => R.of ((cmpT o x.fz y.fz).map fun b => .val (.bl b)) env2 : R (W)) := rfl
theorem qE_chn {o : CmpOp} {o' : CmpOp} {a} {b} {c} : evE G C (.chn o o' a b c) env = ((evE G C a env).bind fun x env1 => (evE G C b env1).bind fun y env2 => (match cmpT o x.fz y.fz with
    | some true => (evE G C c env2).bind fun z env3 => R.of ((cmpT o' y.fz z.fz).map fun b => .val (.bl b)) env3
    | some false => .ok (.val (.bl false)) env2
    | none => .no) : R (W)) := rfl
theorem qE_one {a} : evE G C (.one a) env = (evE G C a env : R (W)) := rfl
theorem qE_and {a} {b} : evE G C (.and a b) env = ((evE G C a env).bind fun x env1 => (match x.fz with
    | .bl true => evE G C b env1
    | .bl false => .ok (.val (.bl false)) env1
    | _ => .no) : R (W)) := rfl
theorem qE_or {a} {b} : evE G C (.or a b) env = ((evE G C a env).bind fun x env1 => (match x.fz with
    | .bl true => .ok (.val (.bl true)) env1
    | .bl false => evE G C b env1
    | _ => .no) : R (W)) := rfl
theorem qE_not {a} : evE G C (.not a) env = ((evE G C a env).bind fun x env1 => (match x.fz with
    | .bl b => .ok (.val (.bl (!b))) env1
    | _ => .no) : R (W)) := rfl
theorem qE_ife {c} {a} {b} : evE G C (.ife c a b) env = ((evT G C c env).bind fun k env1 => (match k with
    | true => evE G C a env1
    | false => evE G C b env1) : R (W)) := rfl
theorem qE_tup {es} : evE G C (.tup es) env = ((evEs G C es env).bind fun ws env1 => if decide (ws.length ≤ 16777216) then .ok (.val (.tup (fzs ws))) env1 else .no : R (W)) := rfl
theorem qE_lst {es} : evE G C (.lst es) env = ((evEs G C es env).bind fun ws env1 => if decide (ws.length ≤ 16777216) then .ok (.lst ws) env1 else .no : R (W)) := rfl
theorem qE_ix {a} {i} : evE G C (.ix a i) env = ((evE G C a env).bind fun x env1 => (evE G C i env1).bind fun y env2 => R.of ((ixT x.fz y.fz).map .val) env2 : R (W)) := rfl
theorem qE_sl {a} {lo} {hi} : evE G C (.sl a lo hi) env = ((evE G C a env).bind fun x env1 => (evO G C lo env1).bind fun l env2 => (evO G C hi env2).bind fun h env3 => R.of (slT x.fz l h) env3 : R (W)) := rfl
theorem qE_bi {b} {es} : evE G C (.bi b es) env = ((evEs G C es env).bind fun ws env1 => R.of (biT b (fzs ws)) env1 : R (W)) := rfl
theorem qE_isi {a} {c} : evE G C (.isi a c) env = ((evE G C a env).bind fun x env1 => R.of ((isiT [c] x.fz).map fun b => .val (.bl b)) env1 : R (W)) := rfl
theorem qE_isis {a} {cs} : evE G C (.isis a cs) env = ((evE G C a env).bind fun x env1 => R.of ((isiT cs x.fz).map fun b => .val (.bl b)) env1 : R (W)) := rfl
theorem qE_call {f} {as} {ds} : evE G C (.call f as ds) env = ((evA G C as env).bind fun ws env1 => (match C f (ws.1 ++ ds.map .val) with
    | .ok w outs => .ok w (backO ws.2 outs env1)
    | .exc c t outs => .exc c t (backO ws.2 outs env1)
    | .no => .no) : R (W)) := rfl
theorem qE_callk {f} {as} {ks} : evE G C (.callk f as ks) env = ((evA G C as env).bind fun ws env1 => (evA G C ks env1).bind fun us env2 => (match C f (ws.1 ++ us.1) with
    | .ok w outs => .ok w (backO ws.2 outs env2)
    | .exc c t outs => .exc c t (backO ws.2 outs env2)
    | .no => .no) : R (W)) := rfl
theorem qE_lc {own} {tg} {it} {cs} {e} : evE G C (.lc own tg it cs e) env = ((evI G C it env).bind fun ts env1 => if hidOk env1 own && tgIn tg own then (match lcL tg own (evTs G C cs) (evE G C e) ts [] (wipeE env1 own) with
    | .ok ws env2 => .ok (.lst ws) (backE env1 env2 own)
    | _ => .no) else .no : R (W)) := rfl
theorem qE_lenS {z} : evE G C (.lenS z) env = ((evSe G C z env).bind fun is env1 => .ok (.val (.int is.length)) env1 : R (W)) := rfl
theorem qE_srtS {z} : evE G C (.srtS z) env = ((evSe G C z env).bind fun is env1 => if decide (is.length < 64) then .ok (.lst ((sortI is).map fun i => .val (.int i))) env1 else .no : R (W)) := rfl
theorem qE_lrng3 {a} {b} {c} : evE G C (.lrng3 a b c) env = ((evE G C a env).bind fun x env1 => (evE G C b env1).bind fun y env2 => (evE G C c env2).bind fun z env3 => R.of ((rng3T x.fz y.fz z.fz).map fun is => .lst (is.map fun i => .val (.int i))) env3 : R (W)) := rfl
theorem qE_rev {a} : evE G C (.rev a) env = ((evE G C a env).bind fun x env1 => R.of (revT x.fz) env1 : R (W)) := rfl
theorem qE_alt {a} {b} : evE G C (.alt a b) env = ((match evE G C a env with
    | .no => evE G C b env
    | r => r) : R (W)) := rfl
theorem qE_fld {c} {f} {a} : evE G C (.fld c f a) env = ((evE G C a env).bind fun w env1 => R.of ((fldT c f w.fz).map .val) env1 : R (W)) := rfl
theorem qE_fldv {c} {f} {i} : evE G C (.fldv c f i) env = ((match env[i]? with
    | some (some (.val t)) => R.of ((fldT c f t).map .val) env
    | some (some (.nd (.ins c' fs) ws)) => if c' = c then (match getN fs ws f with
      | some (.val t) => .ok (.val t) env
      | _ => .no) else .no
    | _ => .no) : R (W)) := rfl
theorem qE_meth {c} {m} {f} {a} {as} {ds} : evE G C (.meth c m f a as ds) env = ((evE G C a env).bind fun w env1 => if isIns c m w.fz then (evA G C as env1).bind fun ws env2 => callR ws.2 (C f (.val w.fz :: (ws.1 ++ ds.map .val))) env2 else .no : R (W)) := rfl
theorem qE_methv {c} {m} {f} {i} {as} {ds} : evE G C (.methv c m f i as ds) env = ((match env[i]? with
    | some (some w) => if isIns c m w.fz then (evA G C as (env.set i none)).bind fun ws env2 => callR (i :: ws.2) (C f (w :: (ws.1 ++ ds.map .val))) env2 else .no
    | _ => .no) : R (W)) := rfl
theorem qE_prop {c} {f} {a} : evE G C (.prop c f a) env = ((evE G C a env).bind fun w env1 => if isOf c w.fz then (match C f [.val w.fz] with
    | .ok w' _ => .ok w' env1
    | _ => .no) else .no : R (W)) := rfl
theorem qE_new {c} {f} {es} {ks} {ar} : evE G C (.new c f es ks ar) env = ((evEs G C es env).bind fun ws env1 => (evEs G C ks env1).bind fun us env2 => (match arr (fzs ws) (fzs us) ar with
    | some ts => newR (C f (.nd (.ins c []) [] :: ts.map .val)) env2
    | none => .no) : R (W)) := rfl
theorem qE_newst {c} {f} {e} : evE G C (.newst c f e) env = ((evE G C e env).bind fun w env1 => (match w.fz with
    | .tup ts => if decide (ts.length ≤ 16777216) then newR (C f [.nd (.ins c []) [], .val (.tup ts)]) env1 else .no
    | .lst ts => if decide (ts.length ≤ 16777216) then newR (C f [.nd (.ins c []) [], .val (.tup ts)]) env1 else .no
    | _ => .no) : R (W)) := rfl
theorem qE_newdd {c} {f} {es} {e} {ks} {ar} : evE G C (.newdd c f es e ks ar) env = ((evEs G C es env).bind fun ws env1 => (evE G C e env1).bind fun w env2 => (match kdct w.fz with
    | some (js, us) => if isKw ks js then (match arr (fzs ws) us ar with
      | some ts => newR (C f (.nd (.ins c []) [] :: ts.map .val)) env2
      | none => .no) else .no
    | none => .no) : R (W)) := rfl
theorem qE_deq {a} {b} : evE G C (.deq a b) env = ((evE G C a env).bind fun x env1 => (evE G C b env1).bind fun y env2 => R.of ((deqT x.fz y.fz).map fun k => .val (.bl k)) env2 : R (W)) := rfl
theorem qE_callw {f} {es} {ks} {ar} : evE G C (.callw f es ks ar) env = ((evEs G C es env).bind fun ws env1 => (evEs G C ks env1).bind fun us env2 => (match arr (fzs ws) (fzs us) ar with
    | some ts => callR [] (C f (ts.map .val)) env2
    | none => .no) : R (W)) := rfl
theorem qE_own {c} {f} {a} {b} : evE G C (.own c f a b) env = ((evE G C a env).bind fun x env1 => (evE G C b env1).bind fun y env2 => if isOf c x.fz then callR [] (C f [.val x.fz, .val y.fz]) env2 else .no : R (W)) := rfl
theorem qE_ownE {c} {cs} {f} {a} {b} : evE G C (.ownE c cs f a b) env = ((evE G C a env).bind fun x env1 => (evE G C b env1).bind fun y env2 => if isOf c x.fz && (iscT c cs y.fz).isSome then callR [] (C f [.val x.fz, .val y.fz]) env2 else .no : R (W)) := rfl
theorem qE_ownB {c} {f} {a} {b} : evE G C (.ownB c f a b) env = ((evE G C a env).bind fun x env1 => (evE G C b env1).bind fun y env2 => if isOf c x.fz && isOf c y.fz then callR [] (C f [.val x.fz, .val y.fz]) env2 else .no : R (W)) := rfl
theorem qE_ownN {c} {f} {a} {b} : evE G C (.ownN c f a b) env = ((evE G C a env).bind fun x env1 => (evE G C b env1).bind fun y env2 => if isOf c x.fz && isOf c y.fz then (callR [] (C f [.val x.fz, .val y.fz]) env2).bind fun w env3 => (match w.fz with
    | .bl k => .ok (.val (.bl (!k))) env3
    | _ => .no) else .no : R (W)) := rfl
theorem qE_ownI {c} {f} {a} {b} : evE G C (.ownI c f a b) env = ((evE G C a env).bind fun x env1 => (evE G C b env1).bind fun y env2 => if isOf c y.fz then (callR [] (C f [.val y.fz, .val x.fz]) env2).bind fun w env3 => (match w.fz with
    | .bl k => .ok (.val (.bl k)) env3
    | _ => .no) else .no : R (W)) := rfl
theorem qE_isc {c} {cs} {a} : evE G C (.isc c cs a) env = ((evE G C a env).bind fun w env1 => R.of ((iscT c cs w.fz).map fun k => .val (.bl k)) env1 : R (W)) := rfl
theorem qE_dct {ks} {es} : evE G C (.dct ks es) env = ((evEs G C es env).bind fun ws env1 => if decide (ks.length = ws.length) && decide (ks.length ≤ 15) then .ok (.nd (.dct ks) ws) env1 else .no : R (W)) := rfl
theorem qE_items {a} : evE G C (.items a) env = ((evE G C a env).bind fun w env1 => R.of (itemsT w.fz) env1 : R (W)) := rfl
theorem qE_kin {n} {a} : evE G C (.kin n a) env = ((evE G C a env).bind fun w env1 => (match (G n).bind kdct, w.fz with
    | some (ks, _), .str x => .ok (.val (.bl (ks.any fun j => decide (j = .inr x)))) env1
    | _, _ => .no) : R (W)) := rfl
theorem qE_kget {n} {a} : evE G C (.kget n a) env = ((evE G C a env).bind fun w env1 => (match (G n).bind kdct, w.fz with
    | some (ks, ts), .str x => R.of ((getN ks ts (.inr x)).map .val) env1
    | _, _ => .no) : R (W)) := rfl
theorem qE_klist {n} : evE G C (.klist n) env = ((match (G n).bind kdct with
    | some (ks, _) => .ok (.lst (ks.map fun k => .val (tKey k))) env
    | none => .no) : R (W)) := rfl
theorem qE_lc2 {own} {own2} {tg} {it} {tg2} {it2} {e} : evE G C (.lc2 own own2 tg it tg2 it2 e) env = ((evI G C it env).bind fun ts env1 => if hidOk env1 own && (tgIn tg own && (tgIn tg2 own2 && own2.all own.contains)) then
      (match lc2L tg own (fun acc env2 => (evI G C it2 env2).bind fun us env3 => if hidOk env3 own2 then lcL tg2 own2 (fun e => .ok true e) (evE G C e) us acc (wipeE env3 own2) else .no) ts [] (wipeE env1 own) with
      | .ok ws env2 => .ok (.lst ws) (backE env1 env2 own)
      | _ => .no) else .no : R (W)) := rfl
theorem qE_srtX {own} {tg} {it} {cs} {e} : evE G C (.srtX own tg it cs e) env = ((evI G C it env).bind fun ts env1 => if hidOk env1 own && tgIn tg own then (match sxL tg own (evTs G C cs) (evE G C e) ts [] (wipeE env1 own) with
    | .ok ss env2 => .ok (.lst ((sortS ss).map fun x => .val (.str x))) (backE env1 env2 own)
    | _ => .no) else .no : R (W)) := rfl
theorem qE_popv {i} {e} : evE G C (.popv i e) env = ((match env[i]? with
    | some (some (.lst _)) => (evE G C e env).bind fun k env1 => (match env1[i]?, k.fz with
      | some (some (.lst ws)), .int j => (match L2.ixN ws.length j with
        | some n => (match ws[n]? with
          | some w => if decide (ws.length ≤ 16777216) then .ok w (env1.set i (some (.lst (ws.eraseIdx n)))) else .no
          | none => .no)
        | none => .no)
      | _, _ => .no)
    | _ => .no) : R (W)) := rfl
theorem qE_lenv {i} : evE G C (.lenv i) env = ((match env[i]? with
    | some (some w) => R.of (lenT [w.fz]) env
    | _ => .no) : R (W)) := rfl
theorem qE_cmpv {o} {i} {b} : evE G C (.cmpv o i b) env = ((match env[i]? with
    | some (some _) => (evE G C b env).bind fun y env1 => (match env1[i]? with
      | some (some w) => R.of ((cmpT o w.fz y.fz).map fun k => .val (.bl k)) env1
      | _ => .no)
    | _ => .no) : R (W)) := rfl
theorem qE_lrng {a} {b} : evE G C (.lrng a b) env = ((evE G C a env).bind fun x env1 => (evO G C b env1).bind fun y env2 => R.of ((rngT x.fz y).map fun is => .lst (is.map fun i => .val (.int i))) env2 : R (W)) := rfl
theorem qSe_sc {own} {tg} {it} {cs} {e} : evSe G C (.sc own tg it cs e) env = ((evI G C it env).bind fun ts env1 => if hidOk env1 own && tgIn tg own then (match scL tg own (evTs G C cs) (evE G C e) ts [] (wipeE env1 own) with
    | .ok is env2 => .ok is (backE env1 env2 own)
    | _ => .no) else .no : R (List Int)) := rfl
theorem qSe_of {e} : evSe G C (.of e) env = ((evE G C e env).bind fun w env1 => (match w.fz with
    | .lst ts => (match T.ints ts with
      | some is => if decide (is.length < 4095) then .ok (dedI [] is) env1 else .no
      | none => .no)
    | _ => .no) : R (List Int)) := rfl
theorem qEs_nil : evEs G C (.nil) env = (.ok [] env : R (List W)) := rfl
theorem qEs_cons {e} {es} : evEs G C (.cons e es) env = ((evE G C e env).bind fun w env1 => (evEs G C es env1).bind fun ws env2 => .ok (w :: ws) env2 : R (List W)) := rfl
theorem qO_no : evO G C (.no) env = (.ok none env : R (Option Int)) := rfl
theorem qO_so {e} : evO G C (.so e) env = ((evE G C e env).bind fun w env1 => (match w.fz with
    | .int i => .ok (some i) env1
    | _ => .no) : R (Option Int)) := rfl
theorem qT_v {e} : evT G C (.v e) env = ((evE G C e env).bind fun w env1 => R.of w.fz.tru env1 : R (Bool)) := rfl
theorem qT_one {a} : evT G C (.one a) env = (evT G C a env : R (Bool)) := rfl
theorem qT_and {a} {b} : evT G C (.and a b) env = ((evT G C a env).bind fun k env1 => (match k with
    | true => evT G C b env1
    | false => .ok false env1) : R (Bool)) := rfl
theorem qT_or {a} {b} : evT G C (.or a b) env = ((evT G C a env).bind fun k env1 => (match k with
    | true => .ok true env1
    | false => evT G C b env1) : R (Bool)) := rfl
theorem qT_not {a} : evT G C (.not a) env = ((evT G C a env).bind fun k env1 => .ok (!k) env1 : R (Bool)) := rfl
theorem qTs_nil : evTs G C (.nil) env = (.ok true env : R (Bool)) := rfl
theorem qTs_cons {c} {cs} : evTs G C (.cons c cs) env = ((evT G C c env).bind fun k env1 => (match k with
    | true => evTs G C cs env1
    | false => .ok false env1) : R (Bool)) := rfl
theorem qI_e {e} : evI G C (.e e) env = ((evE G C e env).bind fun w env1 => (match w.fz with
    | .lst ts => .ok ts env1
    | .tup ts => .ok ts env1
    | _ => .no) : R (List T)) := rfl
theorem qI_rng {a} {b} : evI G C (.rng a b) env = ((evE G C a env).bind fun x env1 => (evO G C b env1).bind fun y env2 => R.of ((rngT x.fz y).map fun is => is.map .int) env2 : R (List T)) := rfl
theorem qI_keys {e} : evI G C (.keys e) env = ((evE G C e env).bind fun w env1 => (match w with
    | .nd (.dct ks) _ => .ok (ks.map tKey) env1
    | .val (.nd (.dcl ks) _) => .ok (ks.map tKey) env1
    | _ => .no) : R (List T)) := rfl
theorem qI_keysv {i} : evI G C (.keysv i) env = ((match env[i]? with
    | some (some (.nd (.dct ks) ws)) => .ok (ks.map tKey) (env.set i (some (.val (.nd (.dcl ks) (fzs ws)))))
    | some (some (.val (.nd (.dcl ks) _))) => .ok (ks.map tKey) env
    | _ => .no) : R (List T)) := rfl
theorem qI_kk {n} : evI G C (.kk n) env = ((match (G n).bind kdct with
    | some (ks, _) => .ok (ks.map tKey) env
    | none => .no) : R (List T)) := rfl
theorem qI_enum {e} : evI G C (.enum e) env = ((evE G C e env).bind fun w env1 => (match w.fz with
    | .lst ts => .ok ((ts.zipIdx).map fun p => .tup [.int p.2, p.1]) env1
    | .tup ts => .ok ((ts.zipIdx).map fun p => .tup [.int p.2, p.1]) env1
    | _ => .no) : R (List T)) := rfl
theorem qI_zip {a} {b} : evI G C (.zip a b) env = ((evE G C a env).bind fun x env1 => (evE G C b env1).bind fun y env2 => (match x.fz, y.fz with
    | .tup ts, .tup us => .ok ((ts.zip us).map fun p => .tup [p.1, p.2]) env2
    | .lst ts, .lst us => .ok ((ts.zip us).map fun p => .tup [p.1, p.2]) env2
    | _, _ => .no) : R (List T)) := rfl
theorem qA_nil : evA G C (.nil) env = (.ok ([], []) env : R (List W × List Nat)) := rfl
theorem qA_cons {e} {as} : evA G C (.cons e as) env = ((evE G C e env).bind fun w env1 => (evA G C as env1).bind fun r env2 => .ok (.val w.fz :: r.1, r.2) env2 : R (List W × List Nat)) := rfl
theorem qA_io {i} {as} : evA G C (.io i as) env = ((match env[i]? with
    | some (some w) => (evA G C as (env.set i none)).bind fun r env2 => .ok (w :: r.1, i :: r.2) env2
    | _ => .no) : R (List W × List Nat)) := rfl
theorem qS_asg {i} {e} : evS G C (.asg i e) env = ((evE G C e env).bind fun w env1 => .ok .nx (env1.set i (some w)) : R (F)) := rfl
theorem qS_asgT {is} {e} : evS G C (.asgT is e) env = ((evE G C e env).bind fun w env1 => (match tgE (.tup is) w.fz env1 with
    | some env2 => .ok .nx env2
    | none => .no) : R (F)) := rfl
theorem qS_par {is} {es} : evS G C (.par is es) env = ((evEs G C es env).bind fun ws env1 => if is.length = ws.length then .ok .nx ((is.zip ws).foldl (fun e p => e.set p.1 (some p.2)) env1) else .no : R (F)) := rfl
theorem qS_setx {i} {k} {e} : evS G C (.setx i k e) env = ((evE G C e env).bind fun w env1 => (match env1[i]? with
    | some (some (.nd (.dct _) _)) => (evE G C k env1).bind fun y env2 => (match env2[i]?, keyT y.fz with
      | some (some (.nd (.dct ks) ws)), some j => if decide (ks.length < 16777216) then .ok .nx (env2.set i (some (.nd (.dct (putN ks j)) (putV ks ws j w)))) else .no
      | _, _ => .no)
    | some (some (.lst _)) => (evE G C k env1).bind fun y env2 => (match env2[i]? with
      | some (some (.lst ws)) => (match y.fz with
        | .int j => (match L2.ixN ws.length j with
          | some n => .ok .nx (env2.set i (some (.lst (ws.set n w))))
          | none => .no)
        | _ => .no)
      | _ => .no)
    | _ => .no) : R (F)) := rfl
theorem qS_app {i} {e} : evS G C (.app i e) env = ((match env[i]? with
    | some (some (.lst _)) => (evE G C e env).bind fun w env1 => (match env1[i]? with
      | some (some (.lst ws)) => if decide (ws.length < 16777216) then .ok .nx (env1.set i (some (.lst (ws ++ [w])))) else .no
      | _ => .no)
    | _ => .no) : R (F)) := rfl
theorem qS_expr {e} : evS G C (.expr e) env = ((evE G C e env).bind fun _ env1 => .ok .nx env1 : R (F)) := rfl
theorem qS_ret {e} : evS G C (.ret e) env = ((evE G C e env).bind fun w env1 => .ok (.rt w) env1 : R (F)) := rfl
theorem qS_retv {i} : evS G C (.retv i) env = ((match env[i]? with
    | some (some w) => .ok (.rt w) (env.set i none)
    | _ => .no) : R (F)) := rfl
theorem qS_retn : evS G C (.retn) env = (.ok (.rt (.val .non)) env : R (F)) := rfl
theorem qS_ife {c} {a} {b} : evS G C (.ife c a b) env = ((evT G C c env).bind fun k env1 => (match k with
    | true => evSs G C a env1
    | false => evSs G C b env1) : R (F)) := rfl
theorem qS_for {tg} {it} {b} : evS G C (.for_ tg it b) env = ((evI G C it env).bind fun ts env1 => forL tg (evSs G C b) ts env1 : R (F)) := rfl
theorem qS_whl {n} {c} {b} : evS G C (.whl n c b) env = (whlL (evT G C c) (evSs G C b) n env : R (F)) := rfl
theorem qS_setf {c} {f} {i} {e} : evS G C (.setf c f i e) env = ((evE G C e env).bind fun w env1 => (match env1[i]? with
    | some (some (.nd (.ins c' fs) ws)) => if decide (c' = c) && decide (fs.length < 1000) then .ok .nx (env1.set i (some (.nd (.ins c (putN fs f)) (putV fs ws f w)))) else .no
    | _ => .no) : R (F)) := rfl
theorem qS_appx {i} {k} {e} : evS G C (.appx i k e) env = ((match env[i]? with
    | some (some (.lst _)) => (evE G C k env).bind fun j env1 => (match env1[i]?, j.fz with
      | some (some (.lst ws)), .int j => (match L2.ixN ws.length j with
        | some n => (match ws[n]? with
          | some (.lst us) => (evE G C e (env1.set i none)).bind fun w env2 => if decide (us.length < 16777216) then .ok .nx (env2.set i (some (.lst (ws.set n (.lst (us ++ [w])))))) else .no
          | _ => .no)
        | none => .no)
      | _, _ => .no)
    | _ => .no) : R (F)) := rfl
theorem qS_clrt {e} : evS G C (.clrt e) env = ((evE G C e env).bind fun w env1 => (match w with
    | .lst _ => .ok .nx env1
    | _ => .no) : R (F)) := rfl
theorem qS_pass : evS G C (.pass) env = (.ok .nx env : R (F)) := rfl
theorem qS_never : evS G C (.never) env = (.no : R (F)) := rfl
theorem qSs_nil : evSs G C (.nil) env = (.ok .nx env : R (F)) := rfl
theorem qSs_cons {s} {ss} : evSs G C (.cons s ss) env = ((evS G C s env).bind fun f env1 => (match f with
    | .nx => evSs G C ss env1
    | f => .ok f env1)
 : R (F)) := rfl
end
end Ev
/-! EvM: loops and calls of the evaluator, as equations. -/
namespace Ev
open PySem
theorem set_back {α : Type} {l : List α} {i : Nat} {x y : α} (h : l[i]? = some y) : (l.set i x).set i y = l := by
  rw [List.set_set]
  exact set_same h
theorem fzs_iv : ∀ is : List Int, fzs (is.map fun i => W.val (.int i)) = is.map .int
  | [] => rfl
  | i :: r => congrArg (T.int i :: ·) (fzs_iv r)
theorem fzs_map {α : Type} (f : α → W) : ∀ xs : List α, fzs (xs.map f) = xs.map fun a => (f a).fz
  | [] => rfl
  | a :: r => congrArg ((f a).fz :: ·) (fzs_map f r)
theorem fzs_val : ∀ ts : List T, fzs (ts.map W.val) = ts
  | [] => rfl
  | t :: r => congrArg (t :: ·) (fzs_val r)
theorem ints_map : ∀ is : List Int, T.ints (is.map .int) = some is
  | [] => rfl
  | i :: r => by
    show (T.ints (r.map .int)).map (i :: ·) = _
    rw [ints_map r]
    rfl
theorem bls_map : ∀ is : List Bool, T.bls (is.map .bl) = some is
  | [] => rfl
  | i :: r => by
    show (T.bls (r.map .bl)).map (i :: ·) = _
    rw [bls_map r]
    rfl
section
variable {α : Type} {e : α → T} {p : α → Bool} {f : α → W} {i : Nat} {test : Env → R Bool} {elt : Env → R W} {env : Env}
theorem hid_one {t : T} (h : i < env.length) : hidOk (env.set i (some (.val t))) [i] = true := by
  simp [hidOk, h]
theorem lcL_eq (hi : env[i]? = some none) : ∀ (xs : List α) (acc : List W), acc.length + xs.length ≤ 16777216 →
    (∀ a ∈ xs, test (env.set i (some (.val (e a)))) = .ok (p a) (env.set i (some (.val (e a)))) ∧ (p a = true → elt (env.set i (some (.val (e a)))) = .ok (f a) (env.set i (some (.val (e a)))))) →
    lcL (.var i) [i] test elt (xs.map e) acc env = .ok (acc ++ (xs.filter p).map f) env
  | [], acc, _, _ => by simp [lcL]
  | a :: r, acc, hl, h => by
    have hlt : i < env.length := (List.getElem?_eq_some_iff.mp hi).1
    obtain ⟨h1, h2⟩ := h a List.mem_cons_self
    have hr := fun acc' hl' => lcL_eq hi r acc' hl' fun b hb => h b (List.mem_cons_of_mem _ hb)
    rw [List.length_cons] at hl
    have hw : wipeE (env.set i (some (.val (e a)))) [i] = env := set_back hi
    show (match (if i < env.length then some (env.set i (some (.val (e a)))) else none) with
      | none => R.no
      | some env1 => _) = _
    rw [if_pos hlt]
    show ((test (env.set i (some (.val (e a))))).bind _) = _
    rw [h1]
    cases hp : p a with
    | true =>
      show ((elt (env.set i (some (.val (e a))))).bind _) = _
      rw [h2 hp]
      show (if (decide (acc.length < 16777216) && hidOk (env.set i (some (.val (e a)))) [i]) = true then lcL (.var i) [i] test elt (r.map e) (acc ++ [f a]) (wipeE (env.set i (some (.val (e a)))) [i]) else R.no) = _
      rw [hid_one hlt, hw, if_pos (by rw [Bool.and_true]; exact decide_eq_true (by omega)), hr _ (by rw [List.length_append, List.length_singleton]; omega), List.filter_cons_of_pos hp, List.map_cons, List.append_assoc]
      rfl
    | false =>
      show (if hidOk (env.set i (some (.val (e a)))) [i] = true then lcL (.var i) [i] test elt (r.map e) acc (wipeE (env.set i (some (.val (e a)))) [i]) else R.no) = _
      rw [hid_one hlt, hw, if_pos rfl, hr _ (by omega), List.filter_cons_of_neg (by rw [hp]; decide)]
theorem lcL_all (hi : env[i]? = some none) (xs : List α) (hl : xs.length ≤ 16777216) (ht : ∀ a ∈ xs, test (env.set i (some (.val (e a)))) = .ok true (env.set i (some (.val (e a))))) (he : ∀ a ∈ xs, elt (env.set i (some (.val (e a)))) = .ok (f a) (env.set i (some (.val (e a))))) :
    lcL (.var i) [i] test elt (xs.map e) [] env = .ok (xs.map f) env := by
  rw [lcL_eq (p := fun _ => true) (f := f) hi xs [] (by simpa using hl) fun a ha => ⟨ht a ha, fun _ => he a ha⟩, List.filter_eq_self.mpr fun _ _ => rfl]
  try rfl
theorem scL_eq {f : α → Int} (hi : env[i]? = some none) : ∀ (xs : List α) (acc : List Int), acc.length + xs.length ≤ 4095 →
    (∀ a ∈ xs, test (env.set i (some (.val (e a)))) = .ok (p a) (env.set i (some (.val (e a)))) ∧ (p a = true → elt (env.set i (some (.val (e a)))) = .ok (.val (.int (f a))) (env.set i (some (.val (e a)))))) →
    scL (.var i) [i] test elt (xs.map e) acc env = .ok (dedI acc ((xs.filter p).map f)) env
  | [], acc, _, _ => by simp [scL, dedI]
  | a :: r, acc, hl, h => by
    have hlt : i < env.length := (List.getElem?_eq_some_iff.mp hi).1
    obtain ⟨h1, h2⟩ := h a List.mem_cons_self
    have hr := fun acc' hl' => scL_eq hi r acc' hl' fun b hb => h b (List.mem_cons_of_mem _ hb)
    rw [List.length_cons] at hl
    have hw : wipeE (env.set i (some (.val (e a)))) [i] = env := set_back hi
    show (match (if i < env.length then some (env.set i (some (.val (e a)))) else none) with
      | none => R.no
      | some env1 => _) = _
    rw [if_pos hlt]
    show ((test (env.set i (some (.val (e a))))).bind _) = _
    rw [h1]
    cases hp : p a with
    | true =>
      show ((elt (env.set i (some (.val (e a))))).bind _) = _
      rw [h2 hp]
      show (if (decide (acc.length < 4095) && hidOk (env.set i (some (.val (e a)))) [i]) = true then scL (.var i) [i] test elt (r.map e) (addI acc (f a)) (wipeE (env.set i (some (.val (e a)))) [i]) else R.no) = _
      have := addI_len acc (f a)
      rw [hid_one hlt, hw, if_pos (by rw [Bool.and_true]; exact decide_eq_true (by omega)), hr _ (by omega), List.filter_cons_of_pos hp, List.map_cons]
      rfl
    | false =>
      show (if hidOk (env.set i (some (.val (e a)))) [i] = true then scL (.var i) [i] test elt (r.map e) acc (wipeE (env.set i (some (.val (e a)))) [i]) else R.no) = _
      rw [hid_one hlt, hw, if_pos rfl, hr _ (by omega), List.filter_cons_of_neg (by rw [hp]; decide)]
theorem scL_all {f : α → Int} (hi : env[i]? = some none) (xs : List α) (hl : xs.length ≤ 4095) (ht : ∀ a ∈ xs, test (env.set i (some (.val (e a)))) = .ok true (env.set i (some (.val (e a))))) (he : ∀ a ∈ xs, elt (env.set i (some (.val (e a)))) = .ok (.val (.int (f a))) (env.set i (some (.val (e a))))) :
    scL (.var i) [i] test elt (xs.map e) [] env = .ok (dedI [] (xs.map f)) env := by
  rw [scL_eq (p := fun _ => true) (f := f) hi xs [] (by simpa using hl) fun a ha => ⟨ht a ha, fun _ => he a ha⟩, List.filter_eq_self.mpr fun _ _ => rfl]
  try rfl
end
/-! ### comprehensions, loops -/
section
variable {G : Nat → Option T} {C : Calls} {env env1 env2 : Env} {own : List Nat} {tg : Tg} {it : It} {cs : Tts} {e : E} {ts : List T} {ws : List W} {is : List Int} {b : Ss}
theorem ev_rd {i : Nat} {t : T} (h : env[i]? = some (some (.val t))) : evE G C (.rd i) env = .ok (.val t) env := by
  rw [qE_rd, h]
  show R.ok (W.val t) (env.set i (some (.val t))) = _
  rw [set_same h]
theorem ev_lc (h1 : evI G C it env = .ok ts env1) (h2 : (hidOk env1 own && tgIn tg own) = true) (h3 : lcL tg own (evTs G C cs) (evE G C e) ts [] (wipeE env1 own) = .ok ws env2) : evE G C (.lc own tg it cs e) env = .ok (.lst ws) (backE env1 env2 own) := by
  rw [qE_lc, h1]
  show (if (hidOk env1 own && tgIn tg own) = true then _ else _) = _
  rw [if_pos h2, h3]
theorem ev_sc (h1 : evI G C it env = .ok ts env1) (h2 : (hidOk env1 own && tgIn tg own) = true) (h3 : scL tg own (evTs G C cs) (evE G C e) ts [] (wipeE env1 own) = .ok is env2) : evSe G C (.sc own tg it cs e) env = .ok is (backE env1 env2 own) := by
  rw [qSe_sc, h1]
  show (if (hidOk env1 own && tgIn tg own) = true then _ else _) = _
  rw [if_pos h2, h3]
theorem ev_for {r : R F} (h1 : evI G C it env = .ok ts env1) (h3 : forL tg (evSs G C b) ts env1 = r) : evS G C (.for_ tg it b) env = r := by
  rw [qS_for, h1]
  exact h3
end
/-! ### calls -/
section
variable {G : Nat → Option T} {tab : Nat → Option FD} {d i : Nat} {ws : List W} {fd : FD} {w : W} {env : Env}
theorem call_rt (ht : tab i = some fd) (hl : ws.length = fd.np) (h : evSs G (callN G tab d) fd.body (ws.map some ++ List.replicate (fd.ns - fd.np) none) = .ok (.rt w) env) : callN G tab (d + 1) i ws = .ok w (outE env fd.io) := by
  show (match tab i with | none => CR.no | some fd => _) = _
  rw [ht]
  show (if ws.length = fd.np then _ else _) = _
  rw [if_pos hl, h]
theorem call_nx (ht : tab i = some fd) (hl : ws.length = fd.np) (h : evSs G (callN G tab d) fd.body (ws.map some ++ List.replicate (fd.ns - fd.np) none) = .ok .nx env) : callN G tab (d + 1) i ws = .ok (.val .non) (outE env fd.io) := by
  show (match tab i with | none => CR.no | some fd => _) = _
  rw [ht]
  show (if ws.length = fd.np then _ else _) = _
  rw [if_pos hl, h]
end
end Ev
namespace Ev
open PySem
/-! ### equality of ints and of lists of ints -/
theorem pds_ints : ∀ is : List Int, pds (is.map .int) = some (is.map .int)
  | [] => rfl
  | i :: r => by
    show (match some (PyData.int i), pds (r.map .int) with | some d, some ds => some (d :: ds) | _, _ => none) = _
    rw [pds_ints r]
    rfl
theorem lay_ints : ∀ is : List Int, PyData.canLayAll0 (is.map .int) = true
  | [] => by simp only [List.map_nil, PyData.canLayAll0]
  | i :: r => by simp only [List.map_cons, PyData.canLayAll0, PyData.canLay0, lay_ints r, Bool.and_self]
theorem dep_ints : ∀ is : List Int, PyData.depthAll (is.map .int) = 0
  | [] => by simp only [List.map_nil, PyData.depthAll]
  | i :: r => by simp only [List.map_cons, PyData.depthAll, PyData.depth, dep_ints r, Nat.max_self]
theorem eqv_ints : ∀ is js : List Int, PyData.eqvAll (is.map .int) (js.map .int) = decide (is = js)
  | [], [] => by simp [PyData.eqvAll]
  | [], j :: js => by simp [PyData.eqvAll]
  | i :: is, [] => by simp [PyData.eqvAll]
  | i :: is, j :: js => by
    simp only [List.map_cons, PyData.eqvAll, PyData.eqv, eqv_ints is js]
    by_cases h : i = j <;> by_cases h2 : is = js <;> simp [h, h2]
theorem shaped_ints (is : List Int) : SeqAt.shaped (.list (is.map .int)) = true := by
  simp [SeqAt.shaped, PyData.canLay0, lay_ints, PyData.depth, dep_ints]
theorem shaped_int (i : Int) : SeqAt.shaped (.int i) = true := by simp [SeqAt.shaped, PyData.canLay0, PyData.depth]
theorem eqT_int (i j : Int) : eqT (.int i) (.int j) = some (decide (i = j)) := by
  show (if (SeqAt.shaped (.int i) && SeqAt.shaped (.int j)) = true then some (PyData.eqv (.int i) (.int j)) else none) = _
  rw [shaped_int, shaped_int, Bool.and_self, if_pos rfl]
  have : PyData.eqv (.int i) (.int j) = (i == j) := by simp only [PyData.eqv]
  rw [this]
  rfl
theorem eqT_ints (is js : List Int) : eqT (.lst (is.map .int)) (.lst (js.map .int)) = some (decide (is = js)) := by
  unfold eqT
  have h : ∀ l : List Int, (T.lst (l.map .int)).pd = some (.list (l.map .int)) := fun l => by
    show (pds (l.map .int)).map PyData.list = _
    rw [pds_ints]
    rfl
  rw [h, h]
  show (if (SeqAt.shaped (.list (is.map .int)) && SeqAt.shaped (.list (js.map .int))) = true then some (PyData.eqv (.list (is.map .int)) (.list (js.map .int))) else none) = _
  rw [shaped_ints, shaped_ints, Bool.and_self, if_pos rfl]
  congr 1
  simp only [PyData.eqv]
  exact eqv_ints is js
end Ev
/-! EvN: steps of texts, loops, texts as letters. -/
namespace Ev
open PySem
theorem nat_inj {a b : Char} (h : a.toNat = b.toNat) : a = b := Char.ext (UInt32.toNat_inj.mp h)
theorem map_nat_inj : ∀ {l m : List Char}, l.map Char.toNat = m.map Char.toNat → l = m
  | [], [], _ => rfl
  | [], _ :: _, h => by cases h
  | _ :: _, [], h => by cases h
  | a :: l, b :: m, h => by
    rw [List.map_cons, List.map_cons] at h
    injection h with h1 h2
    rw [nat_inj h1, map_nat_inj h2]
theorem str_inj {a b : String} : (Str.ofString a = Str.ofString b) ↔ a = b := by
  constructor
  · intro h
    rw [Str.ofString_eq_toList, Str.ofString_eq_toList] at h
    have h1 := congrArg (fun s : Str => s.cps.toList) h
    simp only at h1
    exact String.toList_injective (map_nat_inj h1)
  · intro h
    rw [h]
end Ev
namespace Ev
open PySem
/-- a text behind its first n statements; its n-th one -/
def Ss.from_ : Nat → Ss → Ss
  | 0, s => s
  | n + 1, .cons _ r => Ss.from_ n r
  | _ + 1, .nil => .nil
def Ss.at_ : Nat → Ss → S
  | 0, .cons s _ => s
  | n + 1, .cons _ r => Ss.at_ n r
  | _, .nil => .pass
def S.body : S → Ss
  | .for_ _ _ b => b
  | .whl _ _ b => b
  | _ => .nil
variable {G : Nat → Option T} {C : Calls}
theorem ss_step {s : S} {ss : Ss} {env env1 : Env} {r : R F} (h : evS G C s env = .ok .nx env1) (h2 : evSs G C ss env1 = r) : evSs G C (.cons s ss) env = r := by
  show (evS G C s env).bind _ = r
  rw [h]
  exact h2
theorem ss_one {s : S} {env env1 : Env} (h : evS G C s env = .ok .nx env1) : evSs G C (.cons s .nil) env = .ok .nx env1 := ss_step h rfl
/-- a loop whose turns leave all as it is -/
theorem forL_keep {i : Nat} {body : Env → R F} {env : Env} (hi : i < env.length) : ∀ (ts : List T) (o : Option W), (∀ t ∈ ts, body (env.set i (some (.val t))) = .ok .nx (env.set i (some (.val t)))) → forL (.var i) body ts (env.set i o) = .ok .nx (env.set i (match ts.getLast? with | some t => some (.val t) | none => o))
  | [], o, _ => rfl
  | t :: r, o, h => by
    show (match (if i < (env.set i o).length then some ((env.set i o).set i (some (.val t))) else none) with | none => R.no | some env1 => _) = _
    rw [if_pos (by rw [List.length_set]; exact hi), List.set_set]
    show (body (env.set i (some (.val t)))).bind _ = _
    rw [h t List.mem_cons_self]
    show forL (.var i) body r (env.set i (some (.val t))) = _
    rw [forL_keep hi r (some (.val t)) fun u hu => h u (List.mem_cons_of_mem _ hu)]
    cases r with
    | nil => rfl
    | cons u r =>
      rw [List.getLast?_cons_cons]
      cases hh : (u :: r).getLast? with
      | none => simp at hh
      | some x => rfl
theorem for_keep {i : Nat} {it : It} {b : Ss} {env env1 : Env} {ts : List T} {o : Option W} (h1 : evI G C it env = .ok ts env1) (ho : env1[i]? = some o) (h : ∀ t ∈ ts, evSs G C b (env1.set i (some (.val t))) = .ok .nx (env1.set i (some (.val t)))) :
    evS G C (.for_ (.var i) it b) env = .ok .nx (env1.set i (match ts.getLast? with | some t => some (.val t) | none => o)) := by
  rw [qS_for, h1]
  show forL (.var i) (evSs G C b) ts env1 = _
  have hi : i < env1.length := (List.getElem?_eq_some_iff.mp ho).1
  have e : env1.set i o = env1 := set_same ho
  have := forL_keep (body := evSs G C b) hi ts o h
  rw [e] at this
  exact this
end Ev
/-! Pc: plain trees compared. -/
namespace Ev
open PySem
mutual
theorem eqv_refl : ∀ x : PyData, x.canLay0 = true → PyData.eqv x x = true
  | .none, _ => by simp [PyData.eqv]
  | .bool _, _ => by simp [PyData.eqv]
  | .int _, _ => by simp [PyData.eqv]
  | .str _, _ => by simp [PyData.eqv]
  | .list xs, h => by
    simp only [PyData.canLay0] at h
    simp only [PyData.eqv]
    exact eqvAll_refl xs h
  | .tuple xs, h => by
    simp only [PyData.canLay0] at h
    simp only [PyData.eqv]
    exact eqvAll_refl xs h
  | .dict _, h => by simp only [PyData.canLay0] at h; cases h
theorem eqvAll_refl : ∀ xs : List PyData, PyData.canLayAll0 xs = true → PyData.eqvAll xs xs = true
  | [], _ => by simp only [PyData.eqvAll]
  | x :: xs, h => by
    simp only [PyData.canLayAll0, Bool.and_eq_true] at h
    simp only [PyData.eqvAll, eqv_refl x h.1, eqvAll_refl xs h.2, Bool.and_self]
end
/-- a plain tree of depth at most n -/
def Pl (t : T) (n : Nat) : Prop := ∃ x, t.pd = some x ∧ x.canLay0 = true ∧ x.depth ≤ n
theorem Pl.mono {t : T} {n m : Nat} (h : Pl t n) (hm : n ≤ m) : Pl t m := by
  obtain ⟨x, a, b, c⟩ := h
  exact ⟨x, a, b, by omega⟩
theorem pls {n : Nat} : ∀ ts : List T, (∀ t ∈ ts, Pl t n) → ∃ xs, pds ts = some xs ∧ PyData.canLayAll0 xs = true ∧ PyData.depthAll xs ≤ n
  | [], _ => ⟨[], rfl, by simp [PyData.canLayAll0], by simp [PyData.depthAll]⟩
  | t :: r, h => by
    obtain ⟨x, a, b, c⟩ := h t List.mem_cons_self
    obtain ⟨xs, a', b', c'⟩ := pls r fun u hu => h u (List.mem_cons_of_mem _ hu)
    refine ⟨x :: xs, ?_, ?_, ?_⟩
    · show (match t.pd, pds r with | some d, some ds => some (d :: ds) | _, _ => none) = _
      rw [a, a']
    · simp only [PyData.canLayAll0, b, b', Bool.and_self]
    · simp only [PyData.depthAll]
      omega
theorem Pl.lst {n : Nat} {ts : List T} (h : ∀ t ∈ ts, Pl t n) : Pl (.lst ts) (n + 1) := by
  obtain ⟨xs, a, b, c⟩ := pls ts h
  refine ⟨.list xs, ?_, by simp only [PyData.canLay0, b], by simp only [PyData.depth]; omega⟩
  show (pds ts).map PyData.list = _
  rw [a]
  rfl
theorem Pl.tup {n : Nat} {ts : List T} (h : ∀ t ∈ ts, Pl t n) : Pl (.tup ts) (n + 1) := by
  obtain ⟨xs, a, b, c⟩ := pls ts h
  refine ⟨.tuple xs, ?_, by simp only [PyData.canLay0, b], by simp only [PyData.depth]; omega⟩
  show (pds ts).map PyData.tuple = _
  rw [a]
  rfl
theorem Pl.int {i : Int} : Pl (.int i) 0 := ⟨.int i, rfl, by simp only [PyData.canLay0], by simp only [PyData.depth]; omega⟩
theorem Pl.bl {b : Bool} : Pl (.bl b) 0 := ⟨.bool b, rfl, by simp only [PyData.canLay0], by simp only [PyData.depth]; omega⟩
theorem Pl.str {x : Str} (h : PyData.strOk x = true) : Pl (.str x) 0 := ⟨.str x, rfl, by simp only [PyData.canLay0]; exact h, by simp only [PyData.depth]; omega⟩
theorem Pl.shaped {t : T} {n : Nat} (h : Pl t n) (hn : n ≤ 64) : ∃ x, t.pd = some x ∧ x.canLay0 = true ∧ SeqAt.shaped x = true := by
  obtain ⟨x, a, b, c⟩ := h
  exact ⟨x, a, b, by unfold SeqAt.shaped; rw [b, Bool.true_and]; exact decide_eq_true (by omega)⟩
theorem Pl.refl {t : T} {n : Nat} (h : Pl t n) (hn : n ≤ 64 := by omega) : eqT t t = some true := by
  obtain ⟨x, a, b, c⟩ := h.shaped hn
  unfold eqT
  rw [a]
  show (if (SeqAt.shaped x && SeqAt.shaped x) = true then some (PyData.eqv x x) else none) = _
  rw [c, Bool.and_self, if_pos rfl, eqv_refl x b]
theorem Pl.two {t u : T} {n m : Nat} (h : Pl t n) (h' : Pl u m) (hn : n ≤ 64 := by omega) (hm : m ≤ 64 := by omega) : ∃ b, eqT t u = some b := by
  obtain ⟨x, a, b, c⟩ := h.shaped hn
  obtain ⟨y, a', b', c'⟩ := h'.shaped hm
  refine ⟨PyData.eqv x y, ?_⟩
  unfold eqT
  rw [a, a']
  show (if (SeqAt.shaped x && SeqAt.shaped y) = true then some (PyData.eqv x y) else none) = _
  rw [c, c', Bool.and_self, if_pos rfl]
/-- lists and tuples of the same are equal alike -/
theorem eqT_row {ts us : List T} : eqT (.lst ts) (.lst us) = eqT (.tup ts) (.tup us) := by
  unfold eqT
  show (match (pds ts).map PyData.list, (pds us).map PyData.list with
    | some x, some y => if (SeqAt.shaped x && SeqAt.shaped y) = true then some (PyData.eqv x y) else none
    | _, _ => none) = (match (pds ts).map PyData.tuple, (pds us).map PyData.tuple with
    | some x, some y => if (SeqAt.shaped x && SeqAt.shaped y) = true then some (PyData.eqv x y) else none
    | _, _ => none)
  cases pds ts with
  | none => rfl
  | some xs =>
    cases pds us with
    | none => rfl
    | some ys =>
      have e : ∀ zs, SeqAt.shaped (.list zs) = SeqAt.shaped (.tuple zs) := fun zs => by simp only [SeqAt.shaped, PyData.canLay0, PyData.depth]; rfl
      simp only [Option.map_some, e, PyData.eqv]
/-! ### lists of texts -/
theorem strs_map : ∀ ss : List Str, T.strs (ss.map .str) = some ss
  | [] => rfl
  | s :: r => by
    show (T.strs (r.map .str)).map (s :: ·) = _
    rw [strs_map r]
    rfl
theorem sortL_strs {ss : List Str} : sortL (ss.map .str) = some (.lst ((sortS ss).map fun x => .val (.str x))) := by
  cases ss with
  | nil => rfl
  | cons s r =>
    have e : T.ints ((s :: r).map .str) = none := rfl
    unfold sortL
    rw [e, strs_map]
    rfl
theorem sortS_mem : ∀ {ss : List Str} {x : Str}, x ∈ sortS ss ↔ x ∈ ss
  | [], x => Iff.rfl
  | s :: r, x => by
    have ins : ∀ (l : List Str), x ∈ insS s l ↔ x = s ∨ x ∈ l := by
      intro l
      induction l with
      | nil => simp [insS]
      | cons y l ih =>
        unfold insS
        split
        · simp
        · simp only [List.mem_cons, ih]
          constructor
          · rintro (h | h | h)
            · exact .inr (.inl h)
            · exact .inl h
            · exact .inr (.inr h)
          · rintro (h | h | h)
            · exact .inr (.inl h)
            · exact .inl h
            · exact .inr (.inr h)
    show x ∈ insS s (sortS r) ↔ _
    rw [ins, sortS_mem, List.mem_cons]
theorem fzs_strs (ss : List Str) : fzs (ss.map fun x => W.val (.str x)) = ss.map .str := by
  rw [fzs_map]
  rfl
theorem Pl.strs {ss : List Str} (h : ∀ x ∈ ss, PyData.strOk x = true) : ∀ t ∈ ss.map T.str, Pl t 0 := fun t ht => by
  obtain ⟨x, hx, rfl⟩ := List.mem_map.mp ht
  exact .str (h x hx)
/-- the answer, read off a look -/
def okTrue : CR → Bool
  | .ok (.val (.bl true)) [] => true
  | _ => false
theorem okTrue_eq {r : CR} (h : okTrue r = true) : r = .ok (.val (.bl true)) [] := by
  cases r with
  | ok w os =>
    cases w with
    | val t =>
      cases t with
      | bl b =>
        cases b with
        | true =>
          cases os with
          | nil => rfl
          | cons o os => cases h
        | false => cases h
      | _ => cases h
    | _ => cases h
  | _ => cases h
end Ev
namespace Ev
open PySem
variable {G : Nat → Option T} {C : Calls}
theorem sortS_len (ss : List Str) : (sortS ss).length = ss.length := by
  induction ss with
  | nil => rfl
  | cons s r ih =>
    have ins : ∀ l : List Str, (insS s l).length = l.length + 1 := by
      intro l
      induction l with
      | nil => rfl
      | cons y l ih => unfold insS; split <;> simp [*]
    show (insS s (sortS r)).length = _
    rw [ins, ih, List.length_cons]
/-- a set of texts of a row without doubles -/
theorem sxL_nodup {i : Nat} {test : Env → R Bool} {elt : Env → R W} {env : Env} (hi : env[i]? = some none) : ∀ (xs acc : List Str), (acc ++ xs).Nodup → acc.length + xs.length ≤ 4095 →
    (∀ a ∈ xs, test (env.set i (some (.val (.str a)))) = .ok true (env.set i (some (.val (.str a)))) ∧ elt (env.set i (some (.val (.str a)))) = .ok (.val (.str a)) (env.set i (some (.val (.str a))))) →
    sxL (.var i) [i] test elt (xs.map .str) acc env = .ok (acc ++ xs) env
  | [], acc, _, _, _ => by simp [sxL]
  | a :: r, acc, nd, hl, h => by
    have hlt : i < env.length := (List.getElem?_eq_some_iff.mp hi).1
    obtain ⟨h1, h2⟩ := h a List.mem_cons_self
    have hw : wipeE (env.set i (some (.val (.str a)))) [i] = env := set_back hi
    have hna : a ∉ acc := fun z => by
      have := (List.nodup_append.mp nd).2.2 a z a List.mem_cons_self
      exact this rfl
    have had : addS acc a = acc ++ [a] := by
      unfold addS
      rw [if_neg]
      simp only [List.any_eq_true, decide_eq_true_eq, not_exists, not_and]
      intro y hy e
      exact hna (e ▸ hy)
    rw [List.length_cons] at hl
    show (match (if i < env.length then some (env.set i (some (.val (.str a)))) else none) with
      | none => R.no
      | some env1 => _) = _
    rw [if_pos hlt]
    show ((test (env.set i (some (.val (.str a))))).bind _) = _
    rw [h1]
    show ((elt (env.set i (some (.val (.str a))))).bind _) = _
    rw [h2]
    show (if (decide (acc.length < 4095) && hidOk (env.set i (some (.val (.str a)))) [i]) = true then sxL (.var i) [i] test elt (r.map .str) (addS acc a) (wipeE (env.set i (some (.val (.str a)))) [i]) else R.no) = _
    rw [hid_one hlt, hw, if_pos (by rw [Bool.and_true]; exact decide_eq_true (by omega)), had, sxL_nodup hi r (acc ++ [a]) (by rw [List.append_assoc]; exact nd) (by rw [List.length_append, List.length_singleton]; omega) fun b hb => h b (List.mem_cons_of_mem _ hb), List.append_assoc]
    rfl
theorem ev_srtX {own : List Nat} {tg : Tg} {it : It} {cs : Tts} {e : E} {env env1 env2 : Env} {ts : List T} {ss : List Str} (h1 : evI G C it env = .ok ts env1) (h2 : (hidOk env1 own && tgIn tg own) = true) (h3 : sxL tg own (evTs G C cs) (evE G C e) ts [] (wipeE env1 own) = .ok ss env2) :
    evE G C (.srtX own tg it cs e) env = .ok (.lst ((sortS ss).map fun x => .val (.str x))) (backE env1 env2 own) := by
  rw [qE_srtX, h1]
  show (if (hidOk env1 own && tgIn tg own) = true then _ else _) = _
  rw [if_pos h2, h3]
/-- two clauses, the inner item itself -/
theorem lc2L_eq {α β : Type} {e : α → T} {sub : α → List β} {e2 : β → T} {i j : Nat} {it2 : It} {env : Env} (hij : i ≠ j) (hi : env[i]? = some none) (hj : env[j]? = some none) :
    ∀ (xs : List α) (acc : List W), acc.length + (xs.flatMap sub).length ≤ 16777216 → (∀ a ∈ xs, evI G C it2 (env.set i (some (.val (e a)))) = .ok ((sub a).map e2) (env.set i (some (.val (e a))))) →
    lc2L (.var i) [i, j] (fun acc env2 => (evI G C it2 env2).bind fun us env3 => if hidOk env3 [j] then lcL (.var j) [j] (fun e => .ok true e) (evE G C (.rd j)) us acc (wipeE env3 [j]) else .no) (xs.map e) acc env = .ok (acc ++ (xs.flatMap sub).map fun b => .val (e2 b)) env
  | [], acc, _, _ => by simp [lc2L]
  | a :: r, acc, hl, h => by
    have hlt : i < env.length := (List.getElem?_eq_some_iff.mp hi).1
    have hlj : j < env.length := (List.getElem?_eq_some_iff.mp hj).1
    rw [List.flatMap_cons, List.length_append] at hl
    have h1 := h a List.mem_cons_self
    have hj2 : (env.set i (some (.val (e a))))[j]? = some none := by rw [List.getElem?_set_ne hij]; exact hj
    have hw : wipeE (env.set i (some (.val (e a)))) [j] = env.set i (some (.val (e a))) := set_same hj2
    have hid : hidOk (env.set i (some (.val (e a)))) [j] = true := by simp [hidOk, hj2]
    show (match (if i < env.length then some (env.set i (some (.val (e a)))) else none) with
      | none => R.no
      | some env1 => _) = _
    rw [if_pos hlt]
    show (((evI G C it2 (env.set i (some (.val (e a))))).bind fun us env3 => if hidOk env3 [j] then lcL (.var j) [j] (fun e => .ok true e) (evE G C (.rd j)) us acc (wipeE env3 [j]) else .no).bind _) = _
    rw [h1]
    show ((if hidOk (env.set i (some (.val (e a)))) [j] = true then lcL (.var j) [j] (fun e => .ok true e) (evE G C (.rd j)) ((sub a).map e2) acc (wipeE (env.set i (some (.val (e a)))) [j]) else R.no).bind _) = _
    have := lcL_eq (e := e2) (p := fun _ => true) (f := fun b => W.val (e2 b)) (test := fun e => R.ok true e) (elt := evE G C (.rd j)) hj2 (sub a) acc (by omega) fun b hb => ⟨rfl, fun _ => ev_rd (by rw [List.getElem?_set_self (by rw [List.length_set]; exact hlj)])⟩
    rw [hid, if_pos rfl, hw, this, List.filter_eq_self.mpr fun _ _ => rfl]
    have hid2 : hidOk (env.set i (some (.val (e a)))) [i, j] = true := by simp [hidOk, hlt, hj2]
    have hw2 : wipeE (env.set i (some (.val (e a)))) [i, j] = env := by
      show ((env.set i (some (.val (e a)))).set j none).set i none = env
      rw [set_same hj2]
      exact set_back hi
    show (if hidOk (env.set i (some (.val (e a)))) [i, j] = true then lc2L (.var i) [i, j] _ (r.map e) (acc ++ (sub a).map fun b => W.val (e2 b)) (wipeE (env.set i (some (.val (e a)))) [i, j]) else R.no) = _
    rw [hid2, if_pos rfl, hw2, lc2L_eq hij hi hj r _ (by rw [List.length_append, List.length_map]; omega) fun b hb => h b (List.mem_cons_of_mem _ hb), List.flatMap_cons, List.map_append, List.append_assoc]
theorem ev_lc2 {i j : Nat} {it it2 : It} {env env1 env2 : Env} {ts : List T} {ws : List W} (h1 : evI G C it env = .ok ts env1) (h2 : (hidOk env1 [i, j] && (tgIn (.var i) [i, j] && (tgIn (.var j) [j] && [j].all [i, j].contains))) = true)
    (h3 : lc2L (.var i) [i, j] (fun acc env2 => (evI G C it2 env2).bind fun us env3 => if hidOk env3 [j] then lcL (.var j) [j] (fun e => .ok true e) (evE G C (.rd j)) us acc (wipeE env3 [j]) else .no) ts [] (wipeE env1 [i, j]) = .ok ws env2) :
    evE G C (.lc2 [i, j] [j] (.var i) it (.var j) it2 (.rd j)) env = .ok (.lst ws) (backE env1 env2 [i, j]) := by
  rw [qE_lc2, h1]
  show (if (hidOk env1 [i, j] && (tgIn (.var i) [i, j] && (tgIn (.var j) [j] && [j].all [i, j].contains))) = true then _ else _) = _
  rw [if_pos h2, h3]
theorem bls_fzs {α : Type} (f : α → Bool) (xs : List α) : T.bls (fzs (xs.map fun a => W.val (.bl (f a)))) = some (xs.map f) := by
  rw [fzs_map]
  have : (xs.map fun a => (W.val (T.bl (f a))).fz) = (xs.map f).map .bl := by rw [List.map_map]; rfl
  rw [this]
  exact bls_map _
theorem all_tt {α : Type} (xs : List α) : (xs.all fun _ => true) = true := List.all_eq_true.mpr fun _ _ => rfl
theorem allT_map {α : Type} {f : α → Bool} (xs : List α) : allT [.lst (fzs (xs.map fun a => W.val (.bl (f a))))] = some (.val (.bl (xs.all f))) := by
  rw [fzs_map]
  have : (xs.map fun a => (W.val (T.bl (f a))).fz) = (xs.map f).map .bl := by rw [List.map_map]; rfl
  rw [this]
  show (T.bls _).map _ = _
  rw [bls_map]
  simp [List.all_map]
end Ev
namespace Sh
open PySem L2 Ev
/-- is_integer -/
def ir0 : Ss := (.cons (.ret (.and (.isi (.rd 0) .int) (.one (.not (.isi (.rd 0) .bool))))) .nil)
def fd0 : FD := ⟨1, 1, [], ir0⟩
/-- is_between -/
def ir1 : Ss := (.cons (.ret (.and (.call 0 (.cons (.rd 0) .nil) []) (.one (.chn .LtE .LtE (.rd 1) (.rd 0) (.rd 2))))) .nil)
def fd1 : FD := ⟨3, 3, [], ir1⟩
/-- is_row -/
def ir2 : Ss := (.cons (.ret (.isis (.rd 0) [.list, .tuple])) .nil)
def fd2 : FD := ⟨1, 1, [], ir2⟩
/-- is_step -/
def ir3 : Ss := (.cons (.ret (.and (.isi (.rd 0) .str) (.one (.cmp .In (.rd 0) (.cst 0))))) .nil)
def fd3 : FD := ⟨1, 1, [], ir3⟩
/-- are_groups -/
def ir4 : Ss := (.cons (.ife (.or (.not (.v (.call 2 (.cons (.rd 0) .nil) []))) (.one (.not (.v (.bi .all (.cons (.lc [2] (.var 2) (.e (.rd 0)) .nil (.and (.call 2 (.cons (.rd 2) .nil) []) (.one (.cmp .Gt (.bi .len (.cons (.rd 2) .nil)) (.int 0))))) .nil)))))) (.cons (.ret (.bl false)) .nil) .nil) (.cons (.asg 1 (.lc2 [2, 3] [3] (.var 2) (.e (.rd 0)) (.var 3) (.e (.rd 2)) (.rd 3))) (.cons (.ife (.or (.not (.v (.bi .all (.cons (.lc [3] (.var 3) (.e (.rd 1)) .nil (.call 3 (.cons (.rd 3) .nil) [])) .nil)))) (.one (.not (.v (.bi .all (.cons (.lc [3] (.var 3) (.e (.cst 1)) .nil (.cmp .In (.rd 3) (.rd 1))) .nil)))))) (.cons (.ret (.bl false)) .nil) .nil) (.cons (.ret (.cmp .Eq (.bi .len (.cons (.srtX [3] (.var 3) (.e (.rd 1)) .nil (.rd 3)) .nil)) (.bi .len (.cons (.rd 1) .nil)))) .nil))))
def fd4 : FD := ⟨1, 4, [], ir4⟩
/-- Plan.__init__ -/
def ir5 : Ss := (.cons (.ife (.not (.v (.call 4 (.cons (.rd 1) .nil) []))) (.cons .never .nil) .nil) (.cons (.setf "Plan" "own_groups" 0 (.bi .tuple (.cons (.lc [2] (.var 2) (.e (.rd 1)) .nil (.bi .tuple (.cons (.bi .sorted (.cons (.rd 2) .nil)) .nil))) .nil))) .nil))
def fd5 : FD := ⟨2, 3, [0], ir5⟩
/-- Plan.of -/
def ir6 : Ss := (.cons (.ife (.or (.not (.v (.call 2 (.cons (.rd 0) .nil) []))) (.one (.not (.v (.call 4 (.cons (.rd 0) .nil) []))))) (.cons .never .nil) .nil) (.cons (.ret (.newst "Plan" 5 (.rd 0))) .nil))
def fd6 : FD := ⟨1, 1, [], ir6⟩
/-- Plan.groups -/
def ir7 : Ss := (.cons (.ret (.fld "Plan" "own_groups" (.rd 0))) .nil)
def fd7 : FD := ⟨1, 1, [], ir7⟩
/-- Plan.__eq__ -/
def ir8 : Ss := (.cons (.ret (.and (.isc "Plan" ["Plan", "Rules"] (.rd 1)) (.one (.cmp .Eq (.fld "Plan" "own_groups" (.rd 0)) (.fld "Plan" "own_groups" (.rd 1)))))) .nil)
def fd8 : FD := ⟨2, 2, [], ir8⟩
/-- is_name -/
def ir9 : Ss := (.cons (.ret (.and (.isi (.rd 0) .str) (.one (.or (.cmp .Eq (.rd 0) (.str "plan")) (.one (.kin 2 (.rd 0))))))) .nil)
def fd9 : FD := ⟨1, 1, [], ir9⟩
/-- fits -/
def ir10 : Ss := (.cons (.ife (.v (.cmp .Eq (.rd 0) (.str "held"))) (.cons (.ret (.isi (.rd 1) .bool)) .nil) .nil) (.cons (.ife (.v (.cmp .Eq (.rd 0) (.str "choice"))) (.cons (.ret (.call 1 (.cons (.rd 1) (.cons (.int 0) (.cons (.int 1) .nil))) [])) .nil) .nil) (.cons (.ret (.and (.isi (.rd 1) .str) (.one (.cmp .In (.rd 1) (.kget 2 (.rd 0)))))) .nil)))
def fd10 : FD := ⟨2, 2, [], ir10⟩
/-- check_plan -/
def ir11 : Ss := (.cons (.ife (.not (.v (.isc "Plan" ["Plan", "Rules"] (.rd 0)))) (.cons .never .nil) .nil) .nil)
def fd11 : FD := ⟨1, 1, [], ir11⟩
/-- Rules.__init__ -/
def ir12 : Ss := (.cons (.expr (.call 11 (.cons (.rd 1) .nil) [])) (.cons (.asg 11 (.dct [.inr "clear", .inr "flag", .inr "unflag", .inr "start", .inr "choice", .inr "copied"] (.cons (.rd 2) (.cons (.rd 3) (.cons (.rd 4) (.cons (.rd 5) (.cons (.rd 6) (.cons (.rd 7) .nil)))))))) (.cons (.setx 11 (.str "lock") (.rd 8)) (.cons (.setx 11 (.str "held") (.rd 9)) (.cons (.setx 11 (.str "read") (.rd 10)) (.cons (.for_ (.var 12) (.kk 2) (.cons (.ife (.not (.v (.call 10 (.cons (.rd 12) (.cons (.rdx 11 (.rd 12)) .nil)) []))) (.cons .never .nil) .nil) .nil)) (.cons (.setf "Rules" "own_plan" 0 (.rd 1)) (.cons (.setf "Rules" "told_of" 0 (.rd 11)) .nil))))))))
def fd12 : FD := ⟨11, 13, [0], ir12⟩
/-- Rules.names -/
def ir13 : Ss := (.cons (.ret (.klist 2)) .nil)
def fd13 : FD := ⟨0, 0, [], ir13⟩
/-- Rules.plan -/
def ir14 : Ss := (.cons (.ret (.fld "Rules" "own_plan" (.rd 0))) .nil)
def fd14 : FD := ⟨1, 1, [], ir14⟩
/-- Rules.changed -/
def ir15 : Ss := (.cons (.ife (.not (.v (.call 9 (.cons (.rd 1) .nil) []))) (.cons .never .nil) .nil) (.cons (.asg 3 (.bi .dict (.cons (.fld "Rules" "told_of" (.rd 0)) .nil))) (.cons (.ife (.v (.cmp .Eq (.rd 1) (.str "plan"))) (.cons (.expr (.call 11 (.cons (.rd 2) .nil) [])) (.cons (.ret (.newdd "Rules" 12 (.cons (.rd 2) .nil) (.rd 3) ["clear", "flag", "unflag", "start", "choice", "copied", "lock", "held", "read"] [.p 0, .k 0, .k 1, .k 2, .k 3, .k 4, .k 5, .k 6, .k 7, .k 8])) .nil)) .nil) (.cons (.setx 3 (.rd 1) (.rd 2)) (.cons (.ret (.newdd "Rules" 12 (.cons (.fld "Rules" "own_plan" (.rd 0)) .nil) (.rd 3) ["clear", "flag", "unflag", "start", "choice", "copied", "lock", "held", "read"] [.p 0, .k 0, .k 1, .k 2, .k 3, .k 4, .k 5, .k 6, .k 7, .k 8])) .nil)))))
def fd15 : FD := ⟨3, 4, [], ir15⟩
/-- Rules.__getitem__ -/
def ir16 : Ss := (.cons (.ife (.not (.v (.call 9 (.cons (.rd 1) .nil) []))) (.cons .never .nil) .nil) (.cons (.ret (.ife (.v (.cmp .Eq (.rd 1) (.str "plan"))) (.fld "Rules" "own_plan" (.rd 0)) (.ix (.fld "Rules" "told_of" (.rd 0)) (.rd 1)))) .nil))
def fd16 : FD := ⟨2, 2, [], ir16⟩
/-- Rules.__sub__ -/
def ir17 : Ss := (.cons (.ret (.call 19 (.cons (.rd 0) (.cons (.rd 1) .nil)) [])) .nil)
def fd17 : FD := ⟨2, 2, [], ir17⟩
/-- Rules.__eq__ -/
def ir18 : Ss := (.cons (.ret (.and (.isc "Rules" ["Plan", "Rules"] (.rd 1)) (.and (.ownE "Plan" ["Plan", "Rules"] 8 (.fld "Rules" "own_plan" (.rd 0)) (.fld "Rules" "own_plan" (.rd 1))) (.one (.deq (.fld "Rules" "told_of" (.rd 0)) (.fld "Rules" "told_of" (.rd 1))))))) .nil)
def fd18 : FD := ⟨2, 2, [], ir18⟩
/-- unlike -/
def ir19 : Ss := (.cons (.ife (.not (.v (.isc "Rules" ["Plan", "Rules"] (.rd 1)))) (.cons .never .nil) .nil) (.cons (.asg 2 (.ife (.v (.ownN "Plan" 8 (.fld "Rules" "own_plan" (.rd 0)) (.fld "Rules" "own_plan" (.rd 1)))) (.lst (.cons (.str "plan") .nil)) (.lst .nil))) (.cons (.ret (.op .Add (.rd 2) (.lc [3] (.var 3) (.kk 2) (.cons (.v (.cmp .NotEq (.ix (.fld "Rules" "told_of" (.rd 0)) (.rd 3)) (.ix (.fld "Rules" "told_of" (.rd 1)) (.rd 3)))) .nil) (.rd 3)))) .nil)))
def fd19 : FD := ⟨2, 4, [], ir19⟩
/-- _law_pool -/
def ir20 : Ss := (.cons (.asg 2 (.int 0)) (.cons (.ife (.v (.cmp .Lt (.rd 1) (.bi .len (.cons (.rd 0) .nil)))) (.cons (.asg 2 (.ix (.rd 0) (.rd 1))) .nil) .nil) (.cons (.asg 3 (.bi .max (.cons (.bi .int (.cons (.rd 2) .nil)) (.cons (.bi .int (.cons (.op .Sub (.neg (.int 1)) (.rd 2)) .nil)) .nil)))) (.cons (.asg 4 (.op .Mod (.bi .int (.cons (.op .Mult (.op .Add (.op .Add (.op .Add (.op .Mod (.bi .int (.cons (.rd 3) .nil)) (.int 2147483629)) (.op .Mult (.op .Mult (.int 7919) (.rd 1)) (.rd 1))) (.op .Mult (.int 31) (.rd 1))) (.int 17)) (.int 48271)) .nil)) (.int 2147483647))) (.cons (.ret (.lst (.cons (.op .Mult (.rd 3) (.bi .int (.cons (.cmp .GtE (.rd 3) (.op .Pow (.int 10) (.int 18))) .nil))) (.cons (.rd 4) .nil)))) .nil)))))
def fd20 : FD := ⟨2, 5, [], ir20⟩
/-- _law_take -/
def ir21 : Ss := (.cons (.ife (.v (.cmp .Gt (.rdx 0 (.int 0)) (.int 0))) (.cons (.asg 2 (.op .Mod (.bi .int (.cons (.rdx 0 (.int 0)) .nil)) (.rd 1))) (.cons (.setx 0 (.int 0) (.op .FloorDiv (.rdx 0 (.int 0)) (.rd 1))) (.cons (.retv 2) .nil))) .nil) (.cons (.setx 0 (.int 1) (.op .Mod (.bi .int (.cons (.op .Add (.op .Mult (.rdx 0 (.int 1)) (.int 39373)) (.int 7)) .nil)) (.int 2147483647))) (.cons (.ret (.op .Mod (.bi .int (.cons (.op .FloorDiv (.op .Mod (.bi .int (.cons (.op .Mult (.rdx 0 (.int 1)) (.rdx 0 (.int 1))) .nil)) (.int 2147483629)) (.int 32)) .nil)) (.rd 1))) .nil)))
def fd21 : FD := ⟨2, 3, [0], ir21⟩
/-- _law_one -/
def ir22 : Ss := (.cons (.ret (.ix (.rd 1) (.call 21 (.io 0 (.cons (.bi .len (.cons (.rd 1) .nil)) .nil)) []))) .nil)
def fd22 : FD := ⟨2, 2, [0], ir22⟩
/-- _law_turned -/
def ir23 : Ss := (.cons (.par [2, 3] (.cons (.bi .list (.cons (.rd 1) .nil)) (.cons (.lst .nil) .nil))) (.cons (.whl 12 (.v (.cmpv .NotEq 2 (.lst .nil))) (.cons (.app 3 (.popv 2 (.call 21 (.io 0 (.cons (.lenv 2) .nil)) []))) .nil)) (.cons (.retv 3) .nil)))
def fd23 : FD := ⟨2, 4, [0], ir23⟩
/-- _law_groups -/
def ir24 : Ss := (.cons (.asg 1 (.op .Add (.lst (.cons (.str "ack") (.cons (.str "data 0") (.cons (.str "data 1") .nil)))) (.lc [3] (.var 3) (.e (.lst (.cons (.str "mark 0") (.cons (.str "mark 1") .nil)))) (.cons (.v (.cmp .Gt (.call 21 (.io 0 (.cons (.int 3) .nil)) []) (.int 0))) .nil) (.rd 3)))) (.cons (.asg 2 (.lst .nil)) (.cons (.for_ (.var 3) (.e (.call 23 (.io 0 (.cons (.rd 1) .nil)) [])) (.cons (.ife (.or (.v (.cmpv .Eq 2 (.lst .nil))) (.one (.v (.cmp .Eq (.call 21 (.io 0 (.cons (.int 2) .nil)) []) (.int 0))))) (.cons (.app 2 (.lst .nil)) .nil) .nil) (.cons (.appx 2 (.neg (.int 1)) (.rd 3)) .nil))) (.cons (.ret (.lc [4] (.var 4) (.e (.rd 2)) .nil (.bi .tuple (.cons (.rd 4) .nil)))) .nil))))
def fd24 : FD := ⟨1, 5, [0], ir24⟩
/-- _law_menu -/
def ir25 : Ss := (.cons (.asg 0 (.dct [.inr "clear", .inr "flag", .inr "unflag"] (.cons (.lst (.cons (.str "quiet") (.cons (.str "any") .nil))) (.cons (.lst (.cons (.str "first") (.cons (.str "ahead") (.cons (.str "late") .nil)))) (.cons (.lst (.cons (.str "early") (.cons (.str "ahead") (.cons (.str "behind") .nil)))) .nil))))) (.cons (.setx 0 (.str "start") (.lst (.cons (.str "any") (.cons (.str "flagged") (.cons (.str "both") .nil))))) (.cons (.setx 0 (.str "choice") (.lst (.cons (.int 0) (.cons (.int 1) .nil)))) (.cons (.setx 0 (.str "copied") (.lst (.cons (.str "both") (.cons (.str "source") .nil)))) (.cons (.setx 0 (.str "lock") (.lst (.cons (.str "lock") (.cons (.str "again") (.cons (.str "none") .nil))))) (.cons (.setx 0 (.str "held") (.lst (.cons (.bl true) (.cons (.bl false) .nil)))) (.cons (.setx 0 (.str "read") (.lst (.cons (.str "source") (.cons (.str "any") .nil)))) (.cons (.retv 0) .nil))))))))
def fd25 : FD := ⟨0, 1, [], ir25⟩
/-- _law_usual_choices -/
def ir26 : Ss := (.cons (.asg 0 (.dct [.inr "clear", .inr "flag", .inr "unflag", .inr "start", .inr "choice"] (.cons (.str "quiet") (.cons (.str "ahead") (.cons (.str "ahead") (.cons (.str "flagged") (.cons (.int 0) .nil))))))) (.cons (.setx 0 (.str "copied") (.str "both")) (.cons (.setx 0 (.str "lock") (.str "lock")) (.cons (.setx 0 (.str "held") (.bl true)) (.cons (.setx 0 (.str "read") (.str "source")) (.cons (.retv 0) .nil))))))
def fd26 : FD := ⟨0, 1, [], ir26⟩
/-- _law_choices -/
def ir27 : Ss := (.cons (.par [2, 3] (.cons (.call 25 .nil []) (.cons (.call 26 .nil []) .nil))) (.cons (.for_ (.var 1) (.keysv 2) (.cons (.ife (.v (.cmp .Eq (.call 21 (.io 0 (.cons (.int 2) .nil)) []) (.int 0))) (.cons (.setx 3 (.rd 1) (.call 22 (.io 0 (.cons (.ix (.rd 2) (.rd 1)) .nil)) [])) .nil) .nil) .nil)) (.cons (.retv 3) .nil)))
def fd27 : FD := ⟨1, 4, [0], ir27⟩
/-- _law_rules -/
def ir28 : Ss := (.cons (.ret (.new "Rules" 12 (.cons (.call 6 (.cons (.rd 0) .nil) []) .nil) (.cons (.ix (.rd 1) (.str "clear")) (.cons (.ix (.rd 1) (.str "flag")) (.cons (.ix (.rd 1) (.str "unflag")) (.cons (.ix (.rd 1) (.str "start")) (.cons (.ix (.rd 1) (.str "choice")) (.cons (.ix (.rd 1) (.str "copied")) (.cons (.ix (.rd 1) (.str "lock")) (.cons (.ix (.rd 1) (.str "held")) (.cons (.ix (.rd 1) (.str "read")) .nil))))))))) [.p 0, .k 0, .k 1, .k 2, .k 3, .k 4, .k 5, .k 6, .k 7, .k 8])) .nil)
def fd28 : FD := ⟨2, 2, [], ir28⟩
def fds : List FD := [fd0, fd1, fd2, fd3, fd4, fd5, fd6, fd7, fd8, fd9, fd10, fd11, fd12, fd13, fd14, fd15, fd16, fd17, fd18, fd19, fd20, fd21, fd22, fd23, fd24, fd25, fd26, fd27, fd28]
def cs0 : T := (.tup [(.str "ack"), (.str "data 0"), (.str "data 1"), (.str "mark 0"), (.str "mark 1")])
def cs1 : T := (.tup [(.str "ack"), (.str "data 0"), (.str "data 1")])
def cs2 : T := .nd (.dct (inrs ["clear", "flag", "unflag", "start", "choice", "copied", "lock", "held", "read"])) [(.tup [(.str "quiet"), (.str "any")]), (.tup [(.str "first"), (.str "ahead"), (.str "late")]), (.tup [(.str "early"), (.str "ahead"), (.str "behind")]), (.tup [(.str "any"), (.str "flagged"), (.str "both")]), (.tup [(.int 0), (.int 1)]), (.tup [(.str "both"), (.str "source")]), (.tup [(.str "lock"), (.str "again"), (.str "none")]), (.tup [(.bl true), (.bl false)]), (.tup [(.str "source"), (.str "any")])]
end Sh
namespace Zk04
open PySem L2 Ev
def tx : Tx where
  fs := [some (.glo "is_integer", [], 1), some (.glo "is_between", [], 3), some (.glo "is_row", [], 1), some (.glo "is_step", [], 1), some (.glo "are_groups", [], 1), none, some (.stat "Plan" "of", [], 1), some (.prop "Plan" "groups", [], 1), some (.met "Plan" "__eq__", [], 2), some (.glo "is_name", [], 1), some (.glo "fits", [], 2), some (.glo "check_plan", [], 1), none, some (.stat "Rules" "names", [], 0), some (.prop "Rules" "plan", [], 1), some (.met "Rules" "changed", [], 3), some (.met "Rules" "__getitem__", [], 2), some (.met "Rules" "__sub__", [], 2), some (.met "Rules" "__eq__", [], 2), some (.glo "unlike", [], 2), some (.glo "_law_pool", [], 2), some (.glo "_law_take", [0], 2), some (.glo "_law_one", [0], 2), some (.glo "_law_turned", [0], 2), some (.glo "_law_groups", [0], 1), some (.glo "_law_menu", [], 0), some (.glo "_law_usual_choices", [], 0), some (.glo "_law_choices", [0], 1), some (.glo "_law_rules", [], 2), some (.glo "law", [], 1), some (.glo "_law_told", [], 1), some (.glo "_law_due", [], 2), some (.glo "_law_unlike", [], 2)]
  bl := ["range", "max", "min", "len", "list", "dict", "isinstance", "tuple", "sorted", "int", "str", "bool", "all"]
  cs := [("STEPS", Sh.cs0), ("NEEDED", Sh.cs1), ("MENU", Sh.cs2)]
  fa := [.free "range", .free "max", .free "min", .free "len", .mkr "Rules", .glo "Plan", .stat "Plan" "of", .glo "Rules", .op "Rules" "__eq__", .ne "Rules", .stat "Rules" "names", .free "list", .cls "Rules", .meth "Rules" "changed", .free "dict", .isc "Rules" ["Plan", "Rules"], .slf "Rules", .op "Rules" "__sub__", .noat "Rules" "told_of", .noat "Rules" "own_plan", .menu "MENU" ["clear", "flag", "unflag", "start", "choice", "copied", "lock", "held", "read"] [(.tup [(.str "quiet"), (.str "any")]), (.tup [(.str "first"), (.str "ahead"), (.str "late")]), (.tup [(.str "early"), (.str "ahead"), (.str "behind")]), (.tup [(.str "any"), (.str "flagged"), (.str "both")]), (.tup [(.int 0), (.int 1)]), (.tup [(.str "both"), (.str "source")]), (.tup [(.str "lock"), (.str "again"), (.str "none")]), (.tup [(.bl true), (.bl false)]), (.tup [(.str "source"), (.str "any")])], .mkr "Plan", .free "isinstance", .op "Plan" "__eq__", .isc "Plan" ["Plan", "Rules"], .op "Rules" "__getitem__", .cls "Plan", .prop "Plan" "groups", .prop "Rules" "plan", .free "tuple", .free "sorted", .free "int", .free "str", .free "bool", .noat "Plan" "own_groups", .free "all", .con "NEEDED" (.tup [(.str "ack"), (.str "data 0"), (.str "data 1")]), .ne "Plan", .con "STEPS" (.tup [(.str "ack"), (.str "data 0"), (.str "data 1"), (.str "mark 0"), (.str "mark 1")]), .glo "is_integer", .glo "is_between", .glo "is_row", .glo "is_step", .glo "are_groups", .glo "is_name", .glo "fits", .glo "check_plan", .glo "unlike", .glo "_law_pool", .glo "_law_take", .glo "_law_one", .glo "_law_turned", .glo "_law_groups", .glo "_law_menu", .glo "_law_usual_choices", .glo "_law_choices", .glo "_law_rules", .glo "law", .glo "_law_told", .glo "_law_due", .glo "_law_unlike"]
  mks := [⟨"Rules", 12, 1, [], [.p 0, .d 0 (.str "quiet"), .d 1 (.str "ahead"), .d 2 (.str "ahead"), .d 3 (.str "flagged"), .d 4 (.int 0), .d 5 (.str "both"), .d 6 (.str "lock"), .d 7 (.bl true), .d 8 (.str "source")], [(.str "quiet"), (.str "ahead"), (.str "ahead"), (.str "flagged"), (.int 0), (.str "both"), (.str "lock"), (.bl true), (.str "source")]⟩, ⟨"Rules", 12, 1, ["clear", "flag", "unflag", "start", "choice", "copied", "lock", "held", "read"], [.p 0, .k 0, .k 1, .k 2, .k 3, .k 4, .k 5, .k 6, .k 7, .k 8], []⟩]
  ms := [("Plan", 5)]
/-- law -/
def ir29 : Ss := (.cons (.ife (.v (.cmp .NotEq (.call 13 .nil []) (.bi .list (.cons (.call 25 .nil []) .nil)))) (.cons (.ret (.bl false)) .nil) .nil) (.cons (.clrt (.call 13 .nil [])) (.cons (.for_ (.var 1) (.rng (.bi .max (.cons (.int 1) (.cons (.bi .min (.cons (.int 10) (.cons (.bi .len (.cons (.rd 0) .nil)) .nil))) .nil))) .no) (.cons (.asg 2 (.call 20 (.cons (.rd 0) (.cons (.rd 1) .nil)) [])) (.cons (.asg 3 (.lst (.cons (.call 24 (.io 2 .nil) []) (.cons (.call 27 (.io 2 .nil) []) .nil)))) (.cons (.asg 4 (.lst (.cons (.ife (.v (.cmp .Eq (.call 21 (.io 2 (.cons (.int 2) .nil)) []) (.int 0))) (.ix (.rd 3) (.int 0)) (.call 24 (.io 2 .nil) [])) (.cons (.call 27 (.io 2 .nil) []) .nil)))) (.cons (.par [6, 7] (.cons (.call 28 (.cons (.ix (.rd 3) (.int 0)) (.cons (.ix (.rd 3) (.int 1)) .nil)) []) (.cons (.call 28 (.cons (.ix (.rd 4) (.int 0)) (.cons (.ix (.rd 4) (.int 1)) .nil)) []) .nil))) (.cons (.ife (.v (.cmp .NotEq (.call 30 (.cons (.rd 6) .nil) []) (.call 31 (.cons (.ix (.rd 3) (.int 0)) (.cons (.ix (.rd 3) (.int 1)) .nil)) []))) (.cons (.ret (.bl false)) .nil) .nil) (.cons (.ife (.v (.cmp .NotEq (.call 30 (.cons (.rd 7) .nil) []) (.call 31 (.cons (.ix (.rd 4) (.int 0)) (.cons (.ix (.rd 4) (.int 1)) .nil)) []))) (.cons (.ret (.bl false)) .nil) .nil) (.cons (.ife (.v (.cmp .NotEq (.ownB "Rules" 17 (.rd 6) (.rd 7)) (.call 32 (.cons (.rd 3) (.cons (.rd 4) .nil)) []))) (.cons (.ret (.bl false)) .nil) .nil) (.cons (.ife (.or (.v (.cmp .NotEq (.ownB "Rules" 17 (.rd 7) (.rd 6)) (.call 32 (.cons (.rd 4) (.cons (.rd 3) .nil)) []))) (.one (.v (.cmp .NotEq (.ownB "Rules" 17 (.rd 6) (.rd 6)) (.lst .nil))))) (.cons (.ret (.bl false)) .nil) .nil) (.cons (.ife (.or (.v (.cmp .NotEq (.ownE "Rules" ["Plan", "Rules"] 18 (.rd 6) (.rd 7)) (.cmp .Eq (.call 32 (.cons (.rd 3) (.cons (.rd 4) .nil)) []) (.lst .nil)))) (.one (.v (.ownE "Rules" ["Plan", "Rules"] 18 (.rd 6) (.rd 3))))) (.cons (.ret (.bl false)) .nil) .nil) (.cons (.ife (.v (.ownN "Rules" 18 (.rd 6) (.call 28 (.cons (.ix (.rd 3) (.int 0)) (.cons (.ix (.rd 3) (.int 1)) .nil)) []))) (.cons (.ret (.bl false)) .nil) .nil) (.cons (.for_ (.var 5) (.keys (.call 25 .nil [])) (.cons (.for_ (.var 8) (.e (.ix (.call 25 .nil []) (.rd 5))) (.cons (.asg 9 (.bi .dict (.cons (.op .Add (.items (.ix (.rd 3) (.int 1))) (.lst (.cons (.tup (.cons (.rd 5) (.cons (.rd 8) .nil))) .nil))) .nil))) (.cons (.ife (.v (.cmp .NotEq (.call 30 (.cons (.meth "Rules" "changed" 15 (.rd 6) (.cons (.rd 5) (.cons (.rd 8) .nil)) []) .nil) []) (.call 31 (.cons (.ix (.rd 3) (.int 0)) (.cons (.rd 9) .nil)) []))) (.cons (.ret (.bl false)) .nil) .nil) .nil))) .nil)) (.cons (.ife (.v (.cmp .NotEq (.call 30 (.cons (.meth "Rules" "changed" 15 (.rd 6) (.cons (.str "plan") (.cons (.call 6 (.cons (.ix (.rd 4) (.int 0)) .nil) []) .nil)) []) .nil) []) (.call 31 (.cons (.ix (.rd 4) (.int 0)) (.cons (.ix (.rd 3) (.int 1)) .nil)) []))) (.cons (.ret (.bl false)) .nil) .nil) (.cons (.ife (.v (.cmp .NotEq (.call 30 (.cons (.rd 6) .nil) []) (.call 31 (.cons (.ix (.rd 3) (.int 0)) (.cons (.ix (.rd 3) (.int 1)) .nil)) []))) (.cons (.ret (.bl false)) .nil) .nil) (.cons (.ife (.v (.cmp .NotEq (.call 13 .nil []) (.bi .list (.cons (.call 25 .nil []) .nil)))) (.cons (.ret (.bl false)) .nil) .nil) (.cons (.ife (.v (.ownN "Rules" 18 (.new "Rules" 12 (.cons (.call 6 (.cons (.ix (.rd 3) (.int 0)) .nil) []) .nil) .nil [.p 0, .d 0 (.str "quiet"), .d 1 (.str "ahead"), .d 2 (.str "ahead"), .d 3 (.str "flagged"), .d 4 (.int 0), .d 5 (.str "both"), .d 6 (.str "lock"), .d 7 (.bl true), .d 8 (.str "source")]) (.call 28 (.cons (.ix (.rd 3) (.int 0)) (.cons (.call 26 .nil []) .nil)) []))) (.cons (.ret (.bl false)) .nil) .nil) .nil)))))))))))))))) (.cons (.ret (.bl true)) .nil))))
def fd29 : FD := ⟨1, 10, [], ir29⟩
/-- _law_told -/
def ir30 : Ss := (.cons (.ret (.op .Add (.lst (.cons (.prop "Plan" 7 (.prop "Rules" 14 (.rd 0))) (.cons (.prop "Plan" 7 (.own "Rules" 16 (.rd 0) (.str "plan"))) .nil))) (.lc [1] (.var 1) (.e (.call 13 .nil [])) .nil (.own "Rules" 16 (.rd 0) (.rd 1))))) .nil)
def fd30 : FD := ⟨1, 2, [], ir30⟩
/-- _law_due -/
def ir31 : Ss := (.cons (.asg 2 (.bi .tuple (.cons (.lc [3] (.var 3) (.e (.rd 0)) .nil (.bi .tuple (.cons (.bi .sorted (.cons (.rd 3) .nil)) .nil))) .nil))) (.cons (.ret (.op .Add (.lst (.cons (.rd 2) (.cons (.rd 2) .nil))) (.lc [4] (.var 4) (.keys (.call 25 .nil [])) .nil (.ix (.rd 1) (.rd 4))))) .nil))
def fd31 : FD := ⟨2, 5, [], ir31⟩
/-- _law_unlike -/
def ir32 : Ss := (.cons (.asg 2 (.cmp .NotEq (.lc [3] (.var 3) (.e (.ix (.rd 0) (.int 0))) .nil (.bi .tuple (.cons (.bi .sorted (.cons (.rd 3) .nil)) .nil))) (.lc [3] (.var 3) (.e (.ix (.rd 1) (.int 0))) .nil (.bi .tuple (.cons (.bi .sorted (.cons (.rd 3) .nil)) .nil))))) (.cons (.ret (.op .Add (.op .Mult (.lst (.cons (.str "plan") .nil)) (.bi .int (.cons (.rd 2) .nil))) (.lc [4] (.var 4) (.keys (.call 25 .nil [])) (.cons (.v (.cmp .NotEq (.ix (.ix (.rd 0) (.int 1)) (.rd 4)) (.ix (.ix (.rd 1) (.int 1)) (.rd 4)))) .nil) (.rd 4)))) .nil))
def fd32 : FD := ⟨2, 5, [], ir32⟩
def tabL : List FD := Sh.fds ++ [fd29, fd30, fd31, fd32]
def tab (i : Nat) : Option FD := tabL[i]?
abbrev Cl (d : Nat) : Calls := callN (cstG tx.cs) tab d
end Zk04
namespace Zk04
open PySem L2 Ev
/-! ### what the plans and rules are, as trees -/
def planT (g : T) : T := .nd (.ins "Plan" ["own_groups"]) [g]
def kch : List Key := inrs ["clear", "flag", "unflag", "start", "choice", "copied", "lock", "held", "read"]
def chT (c0 c1 c2 c3 c4 c5 c6 c7 c8 : T) : T := .nd (.dct kch) [c0, c1, c2, c3, c4, c5, c6, c7, c8]
def rulT (p ch : T) : T := .nd (.ins "Rules" ["own_plan", "told_of"]) [p, ch]
def mnus : List (Str × List T) := [("clear", [.str "quiet", .str "any"]), ("flag", [.str "first", .str "ahead", .str "late"]), ("unflag", [.str "early", .str "ahead", .str "behind"]), ("start", [.str "any", .str "flagged", .str "both"]), ("choice", [.int 0, .int 1]), ("copied", [.str "both", .str "source"]), ("lock", [.str "lock", .str "again", .str "none"]), ("held", [.bl true, .bl false]), ("read", [.str "source", .str "any"])]
theorem fit_all (d : Nat) : ∀ m ∈ mnus, ∀ c ∈ m.2, Cl (d + 3) 10 [.val (.str m.1), .val c] = .ok (.val (.bl true)) [] := by
  intro m hm c hc
  simp only [mnus, List.mem_cons, List.not_mem_nil, or_false] at hm
  rcases hm with rfl | rfl | rfl | rfl | rfl | rfl | rfl | rfl | rfl <;>
    simp only [List.mem_cons, List.not_mem_nil, or_false] at hc <;>
    first
    | (rcases hc with rfl | rfl | rfl <;> kernel_rfl)
    | (rcases hc with rfl | rfl <;> kernel_rfl)
theorem told_ev (d : Nat) (g c0 c1 c2 c3 c4 c5 c6 c7 c8 : T) : Cl (d + 3) 30 [.val (rulT (planT g) (chT c0 c1 c2 c3 c4 c5 c6 c7 c8))] = .ok (.lst [.val g, .val g, .val c0, .val c1, .val c2, .val c3, .val c4, .val c5, .val c6, .val c7, .val c8]) [] := by
  kernel_rfl
end Zk04
namespace Zk04
open PySem L2 Ev
def rulW (p c0 c1 c2 c3 c4 c5 c6 c7 c8 : T) : W := .nd (.ins "Rules" ["own_plan", "told_of"]) [.val p, .val (chT c0 c1 c2 c3 c4 c5 c6 c7 c8)]
structure ChOk (c0 c1 c2 c3 c4 c5 c6 c7 c8 : T) : Prop where
  h0 : c0 ∈ ([.str "quiet", .str "any"] : List T)
  h1 : c1 ∈ ([.str "first", .str "ahead", .str "late"] : List T)
  h2 : c2 ∈ ([.str "early", .str "ahead", .str "behind"] : List T)
  h3 : c3 ∈ ([.str "any", .str "flagged", .str "both"] : List T)
  h4 : c4 ∈ ([.int 0, .int 1] : List T)
  h5 : c5 ∈ ([.str "both", .str "source"] : List T)
  h6 : c6 ∈ ([.str "lock", .str "again", .str "none"] : List T)
  h7 : c7 ∈ ([.bl true, .bl false] : List T)
  h8 : c8 ∈ ([.str "source", .str "any"] : List T)
theorem init_ev (d : Nat) (g c0 c1 c2 c3 c4 c5 c6 c7 c8 : T) (k : ChOk c0 c1 c2 c3 c4 c5 c6 c7 c8) :
    Cl (d + 4) 12 [.nd (.ins "Rules" []) [], .val (planT g), .val c0, .val c1, .val c2, .val c3, .val c4, .val c5, .val c6, .val c7, .val c8] = .ok (.val .non) [some (rulW (planT g) c0 c1 c2 c3 c4 c5 c6 c7 c8)] := by
  refine call_nx (fd := Sh.fd12) (env := [some (rulW (planT g) c0 c1 c2 c3 c4 c5 c6 c7 c8), some (.val (planT g)), some (.val c0), some (.val c1), some (.val c2), some (.val c3), some (.val c4), some (.val c5), some (.val c6), some (.val c7), some (.val c8), some (.val (chT c0 c1 c2 c3 c4 c5 c6 c7 c8)), some (.val (.str "read"))]) rfl rfl ?_
  have e1 : evSs (cstG tx.cs) (Cl (d + 3)) Sh.fd12.body ([.nd (.ins "Rules" []) [], .val (planT g), .val c0, .val c1, .val c2, .val c3, .val c4, .val c5, .val c6, .val c7, .val c8].map some ++ List.replicate (Sh.fd12.ns - Sh.fd12.np) none) = evSs (cstG tx.cs) (Cl (d + 3)) (Ss.from_ 5 Sh.ir12)
    [some (.nd (.ins "Rules" []) []), some (.val (planT g)), some (.val c0), some (.val c1), some (.val c2), some (.val c3), some (.val c4), some (.val c5), some (.val c6), some (.val c7), some (.val c8), some (.nd (.dct kch) [.val c0, .val c1, .val c2, .val c3, .val c4, .val c5, .val c6, .val c7, .val c8]), none] := by kernel_rfl
  rw [e1]
  refine ss_step (s := Ss.at_ 5 Sh.ir12) (env1 := [some (.nd (.ins "Rules" []) []), some (.val (planT g)), some (.val c0), some (.val c1), some (.val c2), some (.val c3), some (.val c4), some (.val c5), some (.val c6), some (.val c7), some (.val c8), some (.nd (.dct kch) [.val c0, .val c1, .val c2, .val c3, .val c4, .val c5, .val c6, .val c7, .val c8]), some (.val (.str "read"))]) ?_ (by kernel_rfl)
  refine for_keep (i := 12) (env1 := [some (.nd (.ins "Rules" []) []), some (.val (planT g)), some (.val c0), some (.val c1), some (.val c2), some (.val c3), some (.val c4), some (.val c5), some (.val c6), some (.val c7), some (.val c8), some (.nd (.dct kch) [.val c0, .val c1, .val c2, .val c3, .val c4, .val c5, .val c6, .val c7, .val c8]), none]) (it := .kk 2) (b := (Ss.at_ 5 Sh.ir12).body) (o := none) (ts := [.str "clear", .str "flag", .str "unflag", .str "start", .str "choice", .str "copied", .str "lock", .str "held", .str "read"]) (by kernel_rfl) rfl ?_
  have f := fit_all d
  have f0 := f ("clear", _) (by simp [mnus]) c0 k.h0
  have f1 := f ("flag", _) (by simp [mnus]) c1 k.h1
  have f2 := f ("unflag", _) (by simp [mnus]) c2 k.h2
  have f3 := f ("start", _) (by simp [mnus]) c3 k.h3
  have f4 := f ("choice", _) (by simp [mnus]) c4 k.h4
  have f5 := f ("copied", _) (by simp [mnus]) c5 k.h5
  have f6 := f ("lock", _) (by simp [mnus]) c6 k.h6
  have f7 := f ("held", _) (by simp [mnus]) c7 k.h7
  have f8 := f ("read", _) (by simp [mnus]) c8 k.h8
  clear f
  intro t ht
  simp only [List.mem_cons, List.not_mem_nil, or_false] at ht
  rcases ht with rfl | rfl | rfl | rfl | rfl | rfl | rfl | rfl | rfl
  all_goals
    simp [Ss.at_, S.body, Sh.ir12, qE_int, qE_bl, qE_non, qE_str, qE_cst, qE_rd, qE_rdx, qE_op, qE_neg, qE_cmp, qE_chn, qE_one, qE_and, qE_or, qE_not, qE_ife, qE_tup, qE_lst, qE_ix, qE_sl, qE_bi, qE_isi, qE_isis, qE_call, qE_callk, qE_lenS, qE_srtS, qE_lrng3, qE_rev, qE_alt, qE_fld, qE_fldv, qE_meth, qE_methv, qE_prop, qE_new, qE_newst, qE_newdd, qE_deq, qE_callw, qE_own, qE_ownE, qE_ownB, qE_ownN, qE_ownI, qE_isc, qE_dct, qE_items, qE_kin, qE_kget, qE_klist, qE_popv, qE_lenv, qE_cmpv, qE_lrng, qSe_of, qEs_nil, qEs_cons, qO_no, qO_so, qT_v, qT_one, qT_and, qT_or, qT_not, qTs_nil, qTs_cons, qI_e, qI_rng, qI_keys, qI_keysv, qI_kk, qI_enum, qI_zip, qA_nil, qA_cons, qA_io, qS_asg, qS_asgT, qS_par, qS_setx, qS_app, qS_expr, qS_ret, qS_retv, qS_retn, qS_ife, qS_setf, qS_appx, qS_clrt, qS_pass, qS_never, qSs_nil, qSs_cons, R.bind, R.of, W.fz, fzs, backO, callR, newR, cmpT, cmpI2, cmpInt, T.tru, opT, opInt, biT, lenT, listT, tupleT, intT, allT, hidOk, tgIn, wipeE, backE, isiT, tyT, Ty.sub, ixT, f0, f1, f2, f3, f4, f5, f6, f7, f8, keyT, getN, kch, inrs, str_inj]
end Zk04
namespace Zk04
open PySem L2 Ev
/-! ### groups of plans -/
def gT1 (g : List Str) : T := .tup (g.map .str)
def sts5 : List Str := ["ack", "data 0", "data 1", "mark 0", "mark 1"]
def nd3 : List Str := ["ack", "data 0", "data 1"]
structure GOk (gs : List (List Str)) : Prop where
  ne : ∀ g ∈ gs, g ≠ []
  nd : gs.flatten.Nodup
  st : ∀ s ∈ gs.flatten, s ∈ sts5
  nn : ∀ s ∈ nd3, s ∈ gs.flatten
  len : gs.flatten.length ≤ 5
theorem GOk.glen {gs : List (List Str)} (h : GOk gs) : gs.length ≤ 5 := by
  have key : ∀ l : List (List Str), (∀ g ∈ l, g ≠ []) → l.length ≤ l.flatten.length := by
    intro l
    induction l with
    | nil => intro _; simp
    | cons g l ih =>
      intro h
      have h1 := h g List.mem_cons_self
      have h2 := ih fun x hx => h x (List.mem_cons_of_mem _ hx)
      have : 0 < g.length := List.length_pos_iff.mpr h1
      rw [List.flatten_cons, List.length_append, List.length_cons]
      omega
  exact Nat.le_trans (key gs h.ne) h.len
theorem st5_ok : ∀ s ∈ sts5, PyData.strOk s = true := by
  intro s hs
  simp only [sts5, List.mem_cons, List.not_mem_nil, or_false] at hs
  rcases hs with rfl | rfl | rfl | rfl | rfl <;> decide +kernel
theorem GOk.ok {gs : List (List Str)} (h : GOk gs) : ∀ g ∈ gs, ∀ s ∈ g, PyData.strOk s = true := fun g hg s hs => st5_ok s (h.st s (List.mem_flatten.mpr ⟨g, hg, hs⟩))
theorem is_step_ev (d : Nat) : ∀ s ∈ sts5, Cl (d + 1) 3 [.val (.str s)] = .ok (.val (.bl true)) [] := by
  intro s hs
  simp only [sts5, List.mem_cons, List.not_mem_nil, or_false] at hs
  rcases hs with rfl | rfl | rfl | rfl | rfl <;> kernel_rfl
theorem in_strs {s : Str} {ss : List Str} (h : s ∈ ss) (hs : PyData.strOk s = true) (hk : ∀ x ∈ ss, PyData.strOk x = true) : inAny (.str s) (.lst (ss.map .str)) = some true := by
  obtain ⟨xs, a, b, c⟩ := pls (n := 0) (ss.map .str) (Pl.strs hk)
  have e : ∀ l : List Str, pds (l.map .str) = some (l.map .str) := by
    intro l
    induction l with
    | nil => rfl
    | cons x l ih =>
      show (match some (PyData.str x), pds (l.map .str) with | some d, some ds => some (d :: ds) | _, _ => none) = _
      rw [ih]
      rfl
  rw [e] at a
  cases a
  have e1 : SeqAt.shaped (.str s) = true := by simp [SeqAt.shaped, PyData.canLay0, hs, PyData.depth]
  have e2 : SeqAt.shaped (.list (ss.map .str)) = true := by
    simp only [SeqAt.shaped, PyData.canLay0, b, PyData.depth, Bool.true_and]
    exact decide_eq_true (by omega)
  show (match (T.str s).pd, pds (ss.map .str) with
    | some d, some ds => if SeqAt.shaped d && (SeqAt.shaped (.list ds) && decide (d.depth ≤ 60)) then some (ds.any fun z => PyData.eqv z d) else none
    | _, _ => none) = _
  rw [e]
  show (if (SeqAt.shaped (.str s) && (SeqAt.shaped (.list (ss.map .str)) && decide ((PyData.str s).depth ≤ 60))) = true then some ((ss.map PyData.str).any fun z => PyData.eqv z (.str s)) else none) = _
  rw [e1, e2, if_pos (by simp [PyData.depth])]
  congr 1
  rw [List.any_eq_true]
  exact ⟨.str s, List.mem_map.mpr ⟨s, h, rfl⟩, by simp [PyData.eqv]⟩
/-- a row of groups, a list or a tuple -/
def rowT (q : Bool) (gs : List (List Str)) : T := match q with
  | true => .tup (gs.map gT1)
  | false => .lst (gs.map gT1)
theorem is_row_ev (d : Nat) (q : Bool) (gs : List (List Str)) : Cl (d + 1) 2 [.val (rowT q gs)] = .ok (.val (.bl true)) [] := by cases q <;> kernel_rfl
theorem is_row_g (d : Nat) (g : List Str) : Cl (d + 1) 2 [.val (gT1 g)] = .ok (.val (.bl true)) [] := by kernel_rfl
theorem areg_ev (d : Nat) (q : Bool) (gs : List (List Str)) (h : GOk gs) : Cl (d + 2) 4 [.val (rowT q gs)] = .ok (.val (.bl true)) [] := by
  have hl := h.glen
  have hl2 := h.len
  have i1 : ∀ o1 o2 o3, evI (cstG tx.cs) (Cl (d + 1)) (.e (.rd 0)) [some (.val (rowT q gs)), o1, o2, o3] = .ok (gs.map gT1) [some (.val (rowT q gs)), o1, o2, o3] := fun o1 o2 o3 => by cases q <;> rfl
  have l1 : lcL (.var 2) [2] (evTs (cstG tx.cs) (Cl (d + 1)) .nil) (evE (cstG tx.cs) (Cl (d + 1)) (.and (.call 2 (.cons (.rd 2) .nil) []) (.one (.cmp .Gt (.bi .len (.cons (.rd 2) .nil)) (.int 0))))) (gs.map gT1) [] [some (.val (rowT q gs)), none, none, none] = .ok (gs.map fun _ => .val (.bl true)) [some (.val (rowT q gs)), none, none, none] := by
    refine lcL_all rfl gs (by omega) (fun a _ => rfl) fun g hg => ?_
    have h1 : Cl (d + 1) 2 [.val (.tup (g.map .str))] = .ok (.val (.bl true)) [] := is_row_g d g
    have h2 : 0 < g.length := List.length_pos_iff.mpr (h.ne g hg)
    simp [qE_int, qE_bl, qE_non, qE_str, qE_cst, qE_rd, qE_rdx, qE_op, qE_neg, qE_cmp, qE_chn, qE_one, qE_and, qE_or, qE_not, qE_ife, qE_tup, qE_lst, qE_ix, qE_sl, qE_bi, qE_isi, qE_isis, qE_call, qE_callk, qE_lenS, qE_srtS, qE_lrng3, qE_rev, qE_alt, qE_fld, qE_fldv, qE_meth, qE_methv, qE_prop, qE_new, qE_newst, qE_newdd, qE_deq, qE_callw, qE_own, qE_ownE, qE_ownB, qE_ownN, qE_ownI, qE_isc, qE_dct, qE_items, qE_kin, qE_kget, qE_klist, qE_popv, qE_lenv, qE_cmpv, qE_lrng, qSe_of, qEs_nil, qEs_cons, qO_no, qO_so, qT_v, qT_one, qT_and, qT_or, qT_not, qTs_nil, qTs_cons, qI_e, qI_rng, qI_keys, qI_keysv, qI_kk, qI_enum, qI_zip, qA_nil, qA_cons, qA_io, qS_asg, qS_asgT, qS_par, qS_setx, qS_app, qS_expr, qS_ret, qS_retv, qS_retn, qS_ife, qS_setf, qS_appx, qS_clrt, qS_pass, qS_never, qSs_nil, qSs_cons, R.bind, R.of, W.fz, fzs, backO, callR, newR, cmpT, cmpI2, cmpInt, T.tru, opT, opInt, biT, lenT, listT, tupleT, intT, allT, hidOk, tgIn, wipeE, backE, isiT, tyT, Ty.sub, ixT, h1, gT1, h2]
  have v1 := ev_lc (own := [2]) (i1 none none none) rfl l1
  have l2 := lc2L_eq (G := cstG tx.cs) (C := Cl (d + 1)) (e := gT1) (sub := fun g : List Str => g) (e2 := T.str) (i := 2) (j := 3) (it2 := .e (.rd 2)) (env := [some (.val (rowT q gs)), none, none, none]) (by decide) rfl rfl gs [] (by rw [List.flatMap_id']; simp only [List.length_nil]; omega) fun g hg => by rfl
  have v2 := ev_lc2 (i1 none none none) rfl l2
  rw [List.flatMap_id', List.nil_append] at v2
  have hst := h.st
  have hnn := h.nn
  have hnd := h.nd
  generalize gs.flatten = fl at v2 hst hnn hnd hl2
  clear l2
  have i3 : evI (cstG tx.cs) (Cl (d + 1)) (.e (.rd 1)) [some (.val (rowT q gs)), some (.lst (fl.map fun b => .val (.str b))), none, none] = .ok (fl.map .str) [some (.val (rowT q gs)), some (.val (.lst (fl.map .str))), none, none] := by
    simp [qE_int, qE_bl, qE_non, qE_str, qE_cst, qE_rd, qE_rdx, qE_op, qE_neg, qE_cmp, qE_chn, qE_one, qE_and, qE_or, qE_not, qE_ife, qE_tup, qE_lst, qE_ix, qE_sl, qE_bi, qE_isi, qE_isis, qE_call, qE_callk, qE_lenS, qE_srtS, qE_lrng3, qE_rev, qE_alt, qE_fld, qE_fldv, qE_meth, qE_methv, qE_prop, qE_new, qE_newst, qE_newdd, qE_deq, qE_callw, qE_own, qE_ownE, qE_ownB, qE_ownN, qE_ownI, qE_isc, qE_dct, qE_items, qE_kin, qE_kget, qE_klist, qE_popv, qE_lenv, qE_cmpv, qE_lrng, qSe_of, qEs_nil, qEs_cons, qO_no, qO_so, qT_v, qT_one, qT_and, qT_or, qT_not, qTs_nil, qTs_cons, qI_e, qI_rng, qI_keys, qI_keysv, qI_kk, qI_enum, qI_zip, qA_nil, qA_cons, qA_io, qS_asg, qS_asgT, qS_par, qS_setx, qS_app, qS_expr, qS_ret, qS_retv, qS_retn, qS_ife, qS_setf, qS_appx, qS_clrt, qS_pass, qS_never, qSs_nil, qSs_cons, R.bind, R.of, W.fz, fzs, backO, callR, newR, cmpT, cmpI2, cmpInt, T.tru, opT, opInt, biT, lenT, listT, tupleT, intT, allT, hidOk, tgIn, wipeE, backE, isiT, tyT, Ty.sub, ixT, fzs_strs]
  have i3' : evI (cstG tx.cs) (Cl (d + 1)) (.e (.rd 1)) [some (.val (rowT q gs)), some (.val (.lst (fl.map .str))), none, none] = .ok (fl.map .str) [some (.val (rowT q gs)), some (.val (.lst (fl.map .str))), none, none] := by
    simp [qE_int, qE_bl, qE_non, qE_str, qE_cst, qE_rd, qE_rdx, qE_op, qE_neg, qE_cmp, qE_chn, qE_one, qE_and, qE_or, qE_not, qE_ife, qE_tup, qE_lst, qE_ix, qE_sl, qE_bi, qE_isi, qE_isis, qE_call, qE_callk, qE_lenS, qE_srtS, qE_lrng3, qE_rev, qE_alt, qE_fld, qE_fldv, qE_meth, qE_methv, qE_prop, qE_new, qE_newst, qE_newdd, qE_deq, qE_callw, qE_own, qE_ownE, qE_ownB, qE_ownN, qE_ownI, qE_isc, qE_dct, qE_items, qE_kin, qE_kget, qE_klist, qE_popv, qE_lenv, qE_cmpv, qE_lrng, qSe_of, qEs_nil, qEs_cons, qO_no, qO_so, qT_v, qT_one, qT_and, qT_or, qT_not, qTs_nil, qTs_cons, qI_e, qI_rng, qI_keys, qI_keysv, qI_kk, qI_enum, qI_zip, qA_nil, qA_cons, qA_io, qS_asg, qS_asgT, qS_par, qS_setx, qS_app, qS_expr, qS_ret, qS_retv, qS_retn, qS_ife, qS_setf, qS_appx, qS_clrt, qS_pass, qS_never, qSs_nil, qSs_cons, R.bind, R.of, W.fz, fzs, backO, callR, newR, cmpT, cmpI2, cmpInt, T.tru, opT, opInt, biT, lenT, listT, tupleT, intT, allT, hidOk, tgIn, wipeE, backE, isiT, tyT, Ty.sub, ixT]
  have l3 : lcL (.var 3) [3] (evTs (cstG tx.cs) (Cl (d + 1)) .nil) (evE (cstG tx.cs) (Cl (d + 1)) (.call 3 (.cons (.rd 3) .nil) [])) (fl.map .str) [] [some (.val (rowT q gs)), some (.val (.lst (fl.map .str))), none, none] = .ok (fl.map fun _ => .val (.bl true)) [some (.val (rowT q gs)), some (.val (.lst (fl.map .str))), none, none] := by
    refine lcL_all rfl fl (by omega) (fun a _ => rfl) fun s hs => ?_
    have h1 := is_step_ev d s (hst s hs)
    simp [qE_int, qE_bl, qE_non, qE_str, qE_cst, qE_rd, qE_rdx, qE_op, qE_neg, qE_cmp, qE_chn, qE_one, qE_and, qE_or, qE_not, qE_ife, qE_tup, qE_lst, qE_ix, qE_sl, qE_bi, qE_isi, qE_isis, qE_call, qE_callk, qE_lenS, qE_srtS, qE_lrng3, qE_rev, qE_alt, qE_fld, qE_fldv, qE_meth, qE_methv, qE_prop, qE_new, qE_newst, qE_newdd, qE_deq, qE_callw, qE_own, qE_ownE, qE_ownB, qE_ownN, qE_ownI, qE_isc, qE_dct, qE_items, qE_kin, qE_kget, qE_klist, qE_popv, qE_lenv, qE_cmpv, qE_lrng, qSe_of, qEs_nil, qEs_cons, qO_no, qO_so, qT_v, qT_one, qT_and, qT_or, qT_not, qTs_nil, qTs_cons, qI_e, qI_rng, qI_keys, qI_keysv, qI_kk, qI_enum, qI_zip, qA_nil, qA_cons, qA_io, qS_asg, qS_asgT, qS_par, qS_setx, qS_app, qS_expr, qS_ret, qS_retv, qS_retn, qS_ife, qS_setf, qS_appx, qS_clrt, qS_pass, qS_never, qSs_nil, qSs_cons, R.bind, R.of, W.fz, fzs, backO, callR, newR, cmpT, cmpI2, cmpInt, T.tru, opT, opInt, biT, lenT, listT, tupleT, intT, allT, hidOk, tgIn, wipeE, backE, isiT, tyT, Ty.sub, ixT, h1]
  have v3 := ev_lc (own := [3]) i3 rfl l3
  have i4 : evI (cstG tx.cs) (Cl (d + 1)) (.e (.cst 1)) [some (.val (rowT q gs)), some (.val (.lst (fl.map .str))), none, none] = .ok (nd3.map .str) [some (.val (rowT q gs)), some (.val (.lst (fl.map .str))), none, none] := by kernel_rfl
  have l4 : lcL (.var 3) [3] (evTs (cstG tx.cs) (Cl (d + 1)) .nil) (evE (cstG tx.cs) (Cl (d + 1)) (.cmp .In (.rd 3) (.rd 1))) (nd3.map .str) [] [some (.val (rowT q gs)), some (.val (.lst (fl.map .str))), none, none] = .ok (nd3.map fun _ => .val (.bl true)) [some (.val (rowT q gs)), some (.val (.lst (fl.map .str))), none, none] := by
    refine lcL_all rfl nd3 (by decide) (fun a _ => rfl) fun s hs => ?_
    have h1 := in_strs (hnn s hs) (st5_ok s (hst s (hnn s hs))) fun x hx => st5_ok x (hst x hx)
    simp [qE_int, qE_bl, qE_non, qE_str, qE_cst, qE_rd, qE_rdx, qE_op, qE_neg, qE_cmp, qE_chn, qE_one, qE_and, qE_or, qE_not, qE_ife, qE_tup, qE_lst, qE_ix, qE_sl, qE_bi, qE_isi, qE_isis, qE_call, qE_callk, qE_lenS, qE_srtS, qE_lrng3, qE_rev, qE_alt, qE_fld, qE_fldv, qE_meth, qE_methv, qE_prop, qE_new, qE_newst, qE_newdd, qE_deq, qE_callw, qE_own, qE_ownE, qE_ownB, qE_ownN, qE_ownI, qE_isc, qE_dct, qE_items, qE_kin, qE_kget, qE_klist, qE_popv, qE_lenv, qE_cmpv, qE_lrng, qSe_of, qEs_nil, qEs_cons, qO_no, qO_so, qT_v, qT_one, qT_and, qT_or, qT_not, qTs_nil, qTs_cons, qI_e, qI_rng, qI_keys, qI_keysv, qI_kk, qI_enum, qI_zip, qA_nil, qA_cons, qA_io, qS_asg, qS_asgT, qS_par, qS_setx, qS_app, qS_expr, qS_ret, qS_retv, qS_retn, qS_ife, qS_setf, qS_appx, qS_clrt, qS_pass, qS_never, qSs_nil, qSs_cons, R.bind, R.of, W.fz, fzs, backO, callR, newR, cmpT, cmpI2, cmpInt, T.tru, opT, opInt, biT, lenT, listT, tupleT, intT, allT, hidOk, tgIn, wipeE, backE, isiT, tyT, Ty.sub, ixT, h1]
  have v4 := ev_lc (own := [3]) i4 rfl l4
  have l5 := sxL_nodup (i := 3) (test := evTs (cstG tx.cs) (Cl (d + 1)) .nil) (elt := evE (cstG tx.cs) (Cl (d + 1)) (.rd 3)) (env := [some (.val (rowT q gs)), some (.val (.lst (fl.map .str))), none, none]) rfl fl [] (by simpa using hnd) (by simp only [List.length_nil]; omega) fun a _ => ⟨rfl, rfl⟩
  rw [List.nil_append] at l5
  have v5 := ev_srtX (own := [3]) i3' rfl l5
  have a0 := is_row_ev d q gs
  refine call_rt (fd := Sh.fd4) (env := [some (.val (rowT q gs)), some (.val (.lst (fl.map .str))), none, none]) rfl rfl ?_
  have al1 := bls_fzs (fun _ => true) gs
  have al3 := bls_fzs (fun _ => true) fl
  have al4 := bls_fzs (fun _ => true) nd3
  have rr : ∀ o1 o2 o3, evE (cstG tx.cs) (Cl (d + 1)) (.rd 0) [some (.val (rowT q gs)), o1, o2, o3] = .ok (.val (rowT q gs)) [some (.val (rowT q gs)), o1, o2, o3] := fun _ _ _ => rfl
  have e5 : (sortS ([] ++ fl)).length = fl.length := by rw [sortS_len]; rfl
  simp [Sh.fd4, Sh.ir4, qE_int, qE_bl, qE_non, qE_str, qE_cst, qE_rd, qE_rdx, qE_op, qE_neg, qE_cmp, qE_chn, qE_one, qE_and, qE_or, qE_not, qE_ife, qE_tup, qE_lst, qE_ix, qE_sl, qE_bi, qE_isi, qE_isis, qE_call, qE_callk, qE_lenS, qE_srtS, qE_lrng3, qE_rev, qE_alt, qE_fld, qE_fldv, qE_meth, qE_methv, qE_prop, qE_new, qE_newst, qE_newdd, qE_deq, qE_callw, qE_own, qE_ownE, qE_ownB, qE_ownN, qE_ownI, qE_isc, qE_dct, qE_items, qE_kin, qE_kget, qE_klist, qE_popv, qE_lenv, qE_cmpv, qE_lrng, qSe_of, qEs_nil, qEs_cons, qO_no, qO_so, qT_v, qT_one, qT_and, qT_or, qT_not, qTs_nil, qTs_cons, qI_e, qI_rng, qI_keys, qI_keysv, qI_kk, qI_enum, qI_zip, qA_nil, qA_cons, qA_io, qS_asg, qS_asgT, qS_par, qS_setx, qS_app, qS_expr, qS_ret, qS_retv, qS_retn, qS_ife, qS_setf, qS_appx, qS_clrt, qS_pass, qS_never, qSs_nil, qSs_cons, R.bind, R.of, W.fz, fzs, backO, callR, newR, cmpT, cmpI2, cmpInt, T.tru, opT, opInt, biT, lenT, listT, tupleT, intT, allT, hidOk, tgIn, wipeE, backE, isiT, tyT, Ty.sub, ixT, a0, v1, v2, v3, v4, v5, al1, al3, al4, eqT_int, sortS_len, all_tt, fzs_strs]
/-- the groups sorted -/
def sgs (gs : List (List Str)) : List T := gs.map fun g => .tup ((sortS g).map .str)
def sgT (gs : List (List Str)) : T := .tup (sgs gs)
theorem srt_elt (C : Calls) (i : Nat) (env : Ev.Env) (g : List Str) (hi : env[i]? = some (some (.val (gT1 g)))) : evE (cstG tx.cs) C (.bi .tuple (.cons (.bi .sorted (.cons (.rd i) .nil)) .nil)) env = .ok (.val (.tup ((sortS g).map .str))) env := by
  have h := ev_rd (G := cstG tx.cs) (C := C) hi
  have e : sortedT [T.tup (g.map .str)] = some (.lst ((sortS g).map fun x => .val (.str x))) := sortL_strs
  unfold gT1 at h
  simp [qE_bi, qEs_cons, qEs_nil, R.bind, h, R.of, fzs, W.fz, biT, e, tupleT, fzs_strs]
theorem srt_lc (C : Calls) (i : Nat) (it : Ev.It) (env : Ev.Env) (gs : List (List Str)) (hl : gs.length ≤ 5) (hi : env[i]? = some none) (h1 : evI (cstG tx.cs) C it env = .ok (gs.map gT1) env) :
    evE (cstG tx.cs) C (.lc [i] (.var i) it .nil (.bi .tuple (.cons (.bi .sorted (.cons (.rd i) .nil)) .nil))) env = .ok (.lst ((sgs gs).map .val)) env := by
  have hlt : i < env.length := (List.getElem?_eq_some_iff.mp hi).1
  have w : wipeE env [i] = env := set_same hi
  have l := lcL_all (e := gT1) (f := fun g => W.val (.tup ((sortS g).map .str))) (i := i) (test := evTs (cstG tx.cs) C .nil) (elt := evE (cstG tx.cs) C (.bi .tuple (.cons (.bi .sorted (.cons (.rd i) .nil)) .nil))) hi gs (by omega) (fun _ _ => rfl) fun g _ => srt_elt C i _ g (by rw [List.getElem?_set_self hlt])
  have z := ev_lc (own := [i]) (tg := .var i) (cs := .nil) h1 (by simp [hidOk, hi, tgIn]) (by rw [w]; exact l)
  rw [z]
  have b : backE env env [i] = env := by
    show env.set i ((env[i]?).getD none) = env
    rw [hi]
    exact set_same hi
  rw [b]
  unfold sgs
  rw [List.map_map]
  rfl
theorem sgs_fz (gs : List (List Str)) : fzs ((sgs gs).map W.val) = sgs gs := fzs_val _
def planW (gs : List (List Str)) : W := .nd (.ins "Plan" ["own_groups"]) [.val (sgT gs)]
theorem plan_init (d : Nat) (gs : List (List Str)) (h : GOk gs) : Cl (d + 3) 5 [.nd (.ins "Plan" []) [], .val (.tup (gs.map gT1))] = .ok (.val .non) [some (planW gs)] := by
  refine call_nx (fd := Sh.fd5) (env := [some (planW gs), some (.val (.tup (gs.map gT1))), none]) rfl rfl ?_
  have a := areg_ev d true gs h
  have l := srt_lc (Cl (d + 2)) 2 (.e (.rd 1)) [some (.nd (.ins "Plan" []) []), some (.val (.tup (gs.map gT1))), none] gs h.glen rfl rfl
  simp only [rowT] at a
  simp [Sh.fd5, Sh.ir5, qE_int, qE_bl, qE_non, qE_str, qE_cst, qE_rd, qE_rdx, qE_op, qE_neg, qE_cmp, qE_chn, qE_one, qE_and, qE_or, qE_not, qE_ife, qE_tup, qE_lst, qE_ix, qE_sl, qE_bi, qE_isi, qE_isis, qE_call, qE_callk, qE_lenS, qE_srtS, qE_lrng3, qE_rev, qE_alt, qE_fld, qE_fldv, qE_meth, qE_methv, qE_prop, qE_new, qE_newst, qE_newdd, qE_deq, qE_callw, qE_own, qE_ownE, qE_ownB, qE_ownN, qE_ownI, qE_isc, qE_dct, qE_items, qE_kin, qE_kget, qE_klist, qE_popv, qE_lenv, qE_cmpv, qE_lrng, qSe_of, qEs_nil, qEs_cons, qO_no, qO_so, qT_v, qT_one, qT_and, qT_or, qT_not, qTs_nil, qTs_cons, qI_e, qI_rng, qI_keys, qI_keysv, qI_kk, qI_enum, qI_zip, qA_nil, qA_cons, qA_io, qS_asg, qS_asgT, qS_par, qS_setx, qS_app, qS_expr, qS_ret, qS_retv, qS_retn, qS_ife, qS_setf, qS_appx, qS_clrt, qS_pass, qS_never, qSs_nil, qSs_cons, R.bind, R.of, W.fz, fzs, backO, callR, newR, cmpT, cmpI2, cmpInt, T.tru, opT, opInt, biT, lenT, listT, tupleT, intT, allT, hidOk, tgIn, wipeE, backE, isiT, tyT, Ty.sub, ixT, a, l, sgs_fz, putN, putV, planW, sgT]
theorem plan_of (d : Nat) (gs : List (List Str)) (h : GOk gs) : Cl (d + 4) 6 [.val (.lst (gs.map gT1))] = .ok (planW gs) [] := by
  refine call_rt (fd := Sh.fd6) (env := [some (.val (.lst (gs.map gT1)))]) rfl rfl ?_
  have a := areg_ev (d + 1) false gs h
  have b := is_row_ev (d + 2) false gs
  have c := plan_init d gs h
  have e := h.glen
  have e2 : gs.length ≤ 16777216 := by omega
  simp only [rowT] at a b
  simp [Sh.fd6, Sh.ir6, qE_int, qE_bl, qE_non, qE_str, qE_cst, qE_rd, qE_rdx, qE_op, qE_neg, qE_cmp, qE_chn, qE_one, qE_and, qE_or, qE_not, qE_ife, qE_tup, qE_lst, qE_ix, qE_sl, qE_bi, qE_isi, qE_isis, qE_call, qE_callk, qE_lenS, qE_srtS, qE_lrng3, qE_rev, qE_alt, qE_fld, qE_fldv, qE_meth, qE_methv, qE_prop, qE_new, qE_newst, qE_newdd, qE_deq, qE_callw, qE_own, qE_ownE, qE_ownB, qE_ownN, qE_ownI, qE_isc, qE_dct, qE_items, qE_kin, qE_kget, qE_klist, qE_popv, qE_lenv, qE_cmpv, qE_lrng, qSe_of, qEs_nil, qEs_cons, qO_no, qO_so, qT_v, qT_one, qT_and, qT_or, qT_not, qTs_nil, qTs_cons, qI_e, qI_rng, qI_keys, qI_keysv, qI_kk, qI_enum, qI_zip, qA_nil, qA_cons, qA_io, qS_asg, qS_asgT, qS_par, qS_setx, qS_app, qS_expr, qS_ret, qS_retv, qS_retn, qS_ife, qS_setf, qS_appx, qS_clrt, qS_pass, qS_never, qSs_nil, qSs_cons, R.bind, R.of, W.fz, fzs, backO, callR, newR, cmpT, cmpI2, cmpInt, T.tru, opT, opInt, biT, lenT, listT, tupleT, intT, allT, hidOk, tgIn, wipeE, backE, isiT, tyT, Ty.sub, ixT, a, b, c, e2]
theorem rules_ev (d : Nat) (gs : List (List Str)) (h : GOk gs) (c0 c1 c2 c3 c4 c5 c6 c7 c8 : T) (k : ChOk c0 c1 c2 c3 c4 c5 c6 c7 c8) : Cl (d + 5) 28 [.val (.lst (gs.map gT1)), .val (chT c0 c1 c2 c3 c4 c5 c6 c7 c8)] = .ok (rulW (planT (sgT gs)) c0 c1 c2 c3 c4 c5 c6 c7 c8) [] := by
  refine call_rt (fd := Sh.fd28) (env := [some (.val (.lst (gs.map gT1))), some (.val (chT c0 c1 c2 c3 c4 c5 c6 c7 c8))]) rfl rfl ?_
  have a := plan_of d gs h
  have b := init_ev d (sgT gs) c0 c1 c2 c3 c4 c5 c6 c7 c8 k
  have e : (planW gs).fz = planT (sgT gs) := rfl
  simp [Sh.fd28, Sh.ir28, qE_int, qE_bl, qE_non, qE_str, qE_cst, qE_rd, qE_rdx, qE_op, qE_neg, qE_cmp, qE_chn, qE_one, qE_and, qE_or, qE_not, qE_ife, qE_tup, qE_lst, qE_ix, qE_sl, qE_bi, qE_isi, qE_isis, qE_call, qE_callk, qE_lenS, qE_srtS, qE_lrng3, qE_rev, qE_alt, qE_fld, qE_fldv, qE_meth, qE_methv, qE_prop, qE_new, qE_newst, qE_newdd, qE_deq, qE_callw, qE_own, qE_ownE, qE_ownB, qE_ownN, qE_ownI, qE_isc, qE_dct, qE_items, qE_kin, qE_kget, qE_klist, qE_popv, qE_lenv, qE_cmpv, qE_lrng, qSe_of, qEs_nil, qEs_cons, qO_no, qO_so, qT_v, qT_one, qT_and, qT_or, qT_not, qTs_nil, qTs_cons, qI_e, qI_rng, qI_keys, qI_keysv, qI_kk, qI_enum, qI_zip, qA_nil, qA_cons, qA_io, qS_asg, qS_asgT, qS_par, qS_setx, qS_app, qS_expr, qS_ret, qS_retv, qS_retn, qS_ife, qS_setf, qS_appx, qS_clrt, qS_pass, qS_never, qSs_nil, qSs_cons, R.bind, R.of, W.fz, fzs, backO, callR, newR, cmpT, cmpI2, cmpInt, T.tru, opT, opInt, biT, lenT, listT, tupleT, intT, allT, hidOk, tgIn, wipeE, backE, isiT, tyT, Ty.sub, ixT, a, e, chT, Nd.keys, kch, inrs, keyT, getN, str_inj, arr, b]
theorem due_ev (d : Nat) (gs : List (List Str)) (hl : gs.length ≤ 5) (c0 c1 c2 c3 c4 c5 c6 c7 c8 : T) : Cl (d + 2) 31 [.val (.lst (gs.map gT1)), .val (chT c0 c1 c2 c3 c4 c5 c6 c7 c8)] = .ok (.lst [.val (sgT gs), .val (sgT gs), .val c0, .val c1, .val c2, .val c3, .val c4, .val c5, .val c6, .val c7, .val c8]) [] := by
  have l := srt_lc (Cl (d + 1)) 3 (.e (.rd 0)) [some (.val (.lst (gs.map gT1))), some (.val (chT c0 c1 c2 c3 c4 c5 c6 c7 c8)), none, none, none] gs hl rfl rfl
  refine call_rt (fd := fd31) (env := [some (.val (.lst (gs.map gT1))), some (.val (chT c0 c1 c2 c3 c4 c5 c6 c7 c8)), some (.val (sgT gs)), none, none]) rfl rfl ?_
  refine ss_step (s := Ss.at_ 0 ir31) (env1 := [some (.val (.lst (gs.map gT1))), some (.val (chT c0 c1 c2 c3 c4 c5 c6 c7 c8)), some (.val (sgT gs)), none, none]) ?_ (by kernel_rfl)
  simp [Ss.at_, fd31, ir31, qE_int, qE_bl, qE_non, qE_str, qE_cst, qE_rd, qE_rdx, qE_op, qE_neg, qE_cmp, qE_chn, qE_one, qE_and, qE_or, qE_not, qE_ife, qE_tup, qE_lst, qE_ix, qE_sl, qE_bi, qE_isi, qE_isis, qE_call, qE_callk, qE_lenS, qE_srtS, qE_lrng3, qE_rev, qE_alt, qE_fld, qE_fldv, qE_meth, qE_methv, qE_prop, qE_new, qE_newst, qE_newdd, qE_deq, qE_callw, qE_own, qE_ownE, qE_ownB, qE_ownN, qE_ownI, qE_isc, qE_dct, qE_items, qE_kin, qE_kget, qE_klist, qE_popv, qE_lenv, qE_cmpv, qE_lrng, qSe_of, qEs_nil, qEs_cons, qO_no, qO_so, qT_v, qT_one, qT_and, qT_or, qT_not, qTs_nil, qTs_cons, qI_e, qI_rng, qI_keys, qI_keysv, qI_kk, qI_enum, qI_zip, qA_nil, qA_cons, qA_io, qS_asg, qS_asgT, qS_par, qS_setx, qS_app, qS_expr, qS_ret, qS_retv, qS_retn, qS_ife, qS_setf, qS_appx, qS_clrt, qS_pass, qS_never, qSs_nil, qSs_cons, R.bind, R.of, W.fz, fzs, backO, callR, newR, cmpT, cmpI2, cmpInt, T.tru, opT, opInt, biT, lenT, listT, tupleT, intT, allT, hidOk, tgIn, wipeE, backE, isiT, tyT, Ty.sub, ixT, l, sgs_fz, sgT]
end Zk04
namespace Zk04
open PySem L2 Ev
def nm9 : List Str := ["clear", "flag", "unflag", "start", "choice", "copied", "lock", "held", "read"]
def pk (es : List Bool) (n : Str) : Bool := match getN nm9 es n with
  | some b => !b
  | none => false
def unl (pe : Bool) (es : List Bool) : List Str := (if pe then [] else [("plan" : Str)]) ++ nm9.filter (pk es)
def unlW (pe : Bool) (es : List Bool) : W := .lst ((unl pe es).map fun n => .val (.str n))
theorem plan_eq (d : Nat) (g g' : T) (b : Bool) (h : eqT g g' = some b) : Cl (d + 1) 8 [.val (planT g), .val (planT g')] = .ok (.val (.bl b)) [] := by
  refine call_rt (fd := Sh.fd8) (env := [some (.val (planT g)), some (.val (planT g'))]) rfl rfl ?_
  simp [Sh.fd8, Sh.ir8, qE_int, qE_bl, qE_non, qE_str, qE_cst, qE_rd, qE_rdx, qE_op, qE_neg, qE_cmp, qE_chn, qE_one, qE_and, qE_or, qE_not, qE_ife, qE_tup, qE_lst, qE_ix, qE_sl, qE_bi, qE_isi, qE_isis, qE_call, qE_callk, qE_lenS, qE_srtS, qE_lrng3, qE_rev, qE_alt, qE_fld, qE_fldv, qE_meth, qE_methv, qE_prop, qE_new, qE_newst, qE_newdd, qE_deq, qE_callw, qE_own, qE_ownE, qE_ownB, qE_ownN, qE_ownI, qE_isc, qE_dct, qE_items, qE_kin, qE_kget, qE_klist, qE_popv, qE_lenv, qE_cmpv, qE_lrng, qSe_of, qEs_nil, qEs_cons, qO_no, qO_so, qT_v, qT_one, qT_and, qT_or, qT_not, qTs_nil, qTs_cons, qI_e, qI_rng, qI_keys, qI_keysv, qI_kk, qI_enum, qI_zip, qA_nil, qA_cons, qA_io, qS_asg, qS_asgT, qS_par, qS_setx, qS_app, qS_expr, qS_ret, qS_retv, qS_retn, qS_ife, qS_setf, qS_appx, qS_clrt, qS_pass, qS_never, qSs_nil, qSs_cons, R.bind, R.of, W.fz, fzs, backO, callR, newR, cmpT, cmpI2, cmpInt, T.tru, opT, opInt, biT, lenT, listT, tupleT, intT, allT, hidOk, tgIn, wipeE, backE, isiT, tyT, Ty.sub, ixT, iscT, fldT, planT, getN, h]
def menuW : W := .nd (.dct kch) (mnus.map fun m => .lst (m.2.map .val))
theorem menu_ev (d : Nat) : Cl (d + 1) 25 [] = .ok menuW [] := by kernel_rfl
theorem opAdd_strs (l m : List Str) (hl : l.length + m.length ≤ 16777216) : opT .Add (.lst (l.map .str)) (.lst (m.map .str)) = some (.lst ((l ++ m).map fun n => .val (.str n))) := by
  show (if decide ((l.map T.str).length + (m.map T.str).length ≤ 16777216) then some (W.lst ((l.map T.str ++ m.map T.str).map .val)) else none) = _
  rw [List.length_map, List.length_map, if_pos (decide_eq_true hl), ← List.map_append, List.map_map]
  rfl
section
variable (d : Nat) (c0 c1 c2 c3 c4 c5 c6 c7 c8 a0 a1 a2 a3 a4 a5 a6 a7 a8 : T) (e0 e1 e2 e3 e4 e5 e6 e7 e8 : Bool)
structure Eq9 : Prop where
  h0 : eqT c0 a0 = some e0
  h1 : eqT c1 a1 = some e1
  h2 : eqT c2 a2 = some e2
  h3 : eqT c3 a3 = some e3
  h4 : eqT c4 a4 = some e4
  h5 : eqT c5 a5 = some e5
  h6 : eqT c6 a6 = some e6
  h7 : eqT c7 a7 = some e7
  h8 : eqT c8 a8 = some e8
variable {c0 c1 c2 c3 c4 c5 c6 c7 c8 a0 a1 a2 a3 a4 a5 a6 a7 a8 e0 e1 e2 e3 e4 e5 e6 e7 e8}
theorem unlike_ev (g g' : T) (pe : Bool) (hp : eqT g g' = some pe) (q : Eq9 c0 c1 c2 c3 c4 c5 c6 c7 c8 a0 a1 a2 a3 a4 a5 a6 a7 a8 e0 e1 e2 e3 e4 e5 e6 e7 e8) :
    Cl (d + 2) 19 [.val (rulT (planT g) (chT c0 c1 c2 c3 c4 c5 c6 c7 c8)), .val (rulT (planT g') (chT a0 a1 a2 a3 a4 a5 a6 a7 a8))] = .ok (unlW pe [e0, e1, e2, e3, e4, e5, e6, e7, e8]) [] := by
  have b := plan_eq d g g' pe hp
  obtain ⟨h0, h1, h2, h3, h4, h5, h6, h7, h8⟩ := q
  have l : ∀ fw : W, lcL (.var 3) [3] (evTs (cstG tx.cs) (Cl (d + 1)) (.cons (.v (.cmp .NotEq (.ix (.fld "Rules" "told_of" (.rd 0)) (.rd 3)) (.ix (.fld "Rules" "told_of" (.rd 1)) (.rd 3)))) .nil)) (evE (cstG tx.cs) (Cl (d + 1)) (.rd 3)) (nm9.map .str) []
      [some (.val (rulT (planT g) (chT c0 c1 c2 c3 c4 c5 c6 c7 c8))), some (.val (rulT (planT g') (chT a0 a1 a2 a3 a4 a5 a6 a7 a8))), some fw, none] = .ok ([] ++ (nm9.filter (pk [e0, e1, e2, e3, e4, e5, e6, e7, e8])).map fun n => .val (.str n)) [some (.val (rulT (planT g) (chT c0 c1 c2 c3 c4 c5 c6 c7 c8))), some (.val (rulT (planT g') (chT a0 a1 a2 a3 a4 a5 a6 a7 a8))), some fw, none] := by
    intro fw
    refine lcL_eq rfl nm9 [] (by decide) fun n hn => ⟨?_, fun _ => rfl⟩
    simp only [nm9, List.mem_cons, List.not_mem_nil, or_false] at hn
    rcases hn with rfl | rfl | rfl | rfl | rfl | rfl | rfl | rfl | rfl
    all_goals
      simp [qE_int, qE_bl, qE_non, qE_str, qE_cst, qE_rd, qE_rdx, qE_op, qE_neg, qE_cmp, qE_chn, qE_one, qE_and, qE_or, qE_not, qE_ife, qE_tup, qE_lst, qE_ix, qE_sl, qE_bi, qE_isi, qE_isis, qE_call, qE_callk, qE_lenS, qE_srtS, qE_lrng3, qE_rev, qE_alt, qE_fld, qE_fldv, qE_meth, qE_methv, qE_prop, qE_new, qE_newst, qE_newdd, qE_deq, qE_callw, qE_own, qE_ownE, qE_ownB, qE_ownN, qE_ownI, qE_isc, qE_dct, qE_items, qE_kin, qE_kget, qE_klist, qE_popv, qE_lenv, qE_cmpv, qE_lrng, qSe_of, qEs_nil, qEs_cons, qO_no, qO_so, qT_v, qT_one, qT_and, qT_or, qT_not, qTs_nil, qTs_cons, qI_e, qI_rng, qI_keys, qI_keysv, qI_kk, qI_enum, qI_zip, qA_nil, qA_cons, qA_io, qS_asg, qS_asgT, qS_par, qS_setx, qS_app, qS_expr, qS_ret, qS_retv, qS_retn, qS_ife, qS_setf, qS_appx, qS_clrt, qS_pass, qS_never, qSs_nil, qSs_cons, R.bind, R.of, W.fz, fzs, backO, callR, newR, cmpT, cmpI2, cmpInt, T.tru, opT, opInt, biT, lenT, listT, tupleT, intT, allT, hidOk, tgIn, wipeE, backE, isiT, tyT, Ty.sub, ixT, rulT, chT, fldT, getN, Nd.keys, kch, inrs, keyT, str_inj, pk, nm9, h0, h1, h2, h3, h4, h5, h6, h7, h8]
      try (cases e0 <;> rfl)
      try (cases e1 <;> rfl)
      try (cases e2 <;> rfl)
      try (cases e3 <;> rfl)
      try (cases e4 <;> rfl)
      try (cases e5 <;> rfl)
      try (cases e6 <;> rfl)
      try (cases e7 <;> rfl)
      try (cases e8 <;> rfl)
  refine call_rt (fd := Sh.fd19) (env := [some (.val (rulT (planT g) (chT c0 c1 c2 c3 c4 c5 c6 c7 c8))), some (.val (rulT (planT g') (chT a0 a1 a2 a3 a4 a5 a6 a7 a8))), some (.val (.lst ((if pe then [] else [("plan" : Str)]).map .str))), none]) rfl rfl ?_
  have l1 := l (.val (.lst ((if pe then [] else [("plan" : Str)]).map .str)))
  rw [List.nil_append] at l1
  have v := ev_lc (G := cstG tx.cs) (C := Cl (d + 1)) (it := .kk 2) (own := [3]) (tg := .var 3) (ts := nm9.map .str) (env := [some (.val (rulT (planT g) (chT c0 c1 c2 c3 c4 c5 c6 c7 c8))), some (.val (rulT (planT g') (chT a0 a1 a2 a3 a4 a5 a6 a7 a8))), some (.val (.lst ((if pe then [] else [("plan" : Str)]).map .str))), none]) (env1 := [some (.val (rulT (planT g) (chT c0 c1 c2 c3 c4 c5 c6 c7 c8))), some (.val (rulT (planT g') (chT a0 a1 a2 a3 a4 a5 a6 a7 a8))), some (.val (.lst ((if pe then [] else [("plan" : Str)]).map .str))), none]) (by kernel_rfl) rfl l1
  refine ss_step (s := Ss.at_ 0 Sh.ir19) (env1 := [some (.val (rulT (planT g) (chT c0 c1 c2 c3 c4 c5 c6 c7 c8))), some (.val (rulT (planT g') (chT a0 a1 a2 a3 a4 a5 a6 a7 a8))), none, none]) (by kernel_rfl) ?_
  refine ss_step (s := Ss.at_ 1 Sh.ir19) (env1 := [some (.val (rulT (planT g) (chT c0 c1 c2 c3 c4 c5 c6 c7 c8))), some (.val (rulT (planT g') (chT a0 a1 a2 a3 a4 a5 a6 a7 a8))), some (.lst ((if pe then [] else [("plan" : Str)]).map fun n => .val (.str n))), none]) ?_ ?_
  · cases pe <;> simp [Ss.at_, Sh.ir19, qE_int, qE_bl, qE_non, qE_str, qE_cst, qE_rd, qE_rdx, qE_op, qE_neg, qE_cmp, qE_chn, qE_one, qE_and, qE_or, qE_not, qE_ife, qE_tup, qE_lst, qE_ix, qE_sl, qE_bi, qE_isi, qE_isis, qE_call, qE_callk, qE_lenS, qE_srtS, qE_lrng3, qE_rev, qE_alt, qE_fld, qE_fldv, qE_meth, qE_methv, qE_prop, qE_new, qE_newst, qE_newdd, qE_deq, qE_callw, qE_own, qE_ownE, qE_ownB, qE_ownN, qE_ownI, qE_isc, qE_dct, qE_items, qE_kin, qE_kget, qE_klist, qE_popv, qE_lenv, qE_cmpv, qE_lrng, qSe_of, qEs_nil, qEs_cons, qO_no, qO_so, qT_v, qT_one, qT_and, qT_or, qT_not, qTs_nil, qTs_cons, qI_e, qI_rng, qI_keys, qI_keysv, qI_kk, qI_enum, qI_zip, qA_nil, qA_cons, qA_io, qS_asg, qS_asgT, qS_par, qS_setx, qS_app, qS_expr, qS_ret, qS_retv, qS_retn, qS_ife, qS_setf, qS_appx, qS_clrt, qS_pass, qS_never, qSs_nil, qSs_cons, R.bind, R.of, W.fz, fzs, backO, callR, newR, cmpT, cmpI2, cmpInt, T.tru, opT, opInt, biT, lenT, listT, tupleT, intT, allT, hidOk, tgIn, wipeE, backE, isiT, tyT, Ty.sub, ixT, rulT, fldT, getN, isOf, str_inj, b, planT] at b ⊢ <;> simp [b]
  · have fl : (nm9.filter (pk [e0, e1, e2, e3, e4, e5, e6, e7, e8])).length ≤ 9 := List.length_filter_le _ _
    have hl : (if pe then [] else [("plan" : Str)]).length + (nm9.filter (pk [e0, e1, e2, e3, e4, e5, e6, e7, e8])).length ≤ 16777216 := by cases pe <;> simp <;> omega
    have op := opAdd_strs _ _ hl
    have rd : ∀ fw : List Str, evE (cstG tx.cs) (Cl (d + 1)) (.rd 2) [some (.val (rulT (planT g) (chT c0 c1 c2 c3 c4 c5 c6 c7 c8))), some (.val (rulT (planT g') (chT a0 a1 a2 a3 a4 a5 a6 a7 a8))), some (.lst (fw.map fun n => .val (.str n))), none] = .ok (.val (.lst (fw.map .str))) [some (.val (rulT (planT g) (chT c0 c1 c2 c3 c4 c5 c6 c7 c8))), some (.val (rulT (planT g') (chT a0 a1 a2 a3 a4 a5 a6 a7 a8))), some (.val (.lst (fw.map .str))), none] := fun fw => by
      simp [qE_rd, W.fz, fzs_strs]
    show (evS (cstG tx.cs) (Cl (d + 1)) (.ret (.op .Add (.rd 2) (.lc [3] (.var 3) (.kk 2) (.cons (.v (.cmp .NotEq (.ix (.fld "Rules" "told_of" (.rd 0)) (.rd 3)) (.ix (.fld "Rules" "told_of" (.rd 1)) (.rd 3)))) .nil) (.rd 3)))) _).bind _ = _
    rw [qS_ret, qE_op, rd]
    show ((evE (cstG tx.cs) (Cl (d + 1)) (.lc [3] (.var 3) (.kk 2) _ (.rd 3)) _).bind _ |>.bind _ |>.bind _) = _
    rw [v]
    show ((R.of (opT .Add (.lst ((if pe then [] else [("plan" : Str)]).map .str)) (.lst (fzs ((nm9.filter (pk [e0, e1, e2, e3, e4, e5, e6, e7, e8])).map fun n => W.val (.str n))))) _).bind _ |>.bind _) = _
    rw [fzs_strs, op]
    rfl
theorem sub_ev (g g' : T) (pe : Bool) (hp : eqT g g' = some pe) (q : Eq9 c0 c1 c2 c3 c4 c5 c6 c7 c8 a0 a1 a2 a3 a4 a5 a6 a7 a8 e0 e1 e2 e3 e4 e5 e6 e7 e8) :
    Cl (d + 3) 17 [.val (rulT (planT g) (chT c0 c1 c2 c3 c4 c5 c6 c7 c8)), .val (rulT (planT g') (chT a0 a1 a2 a3 a4 a5 a6 a7 a8))] = .ok (unlW pe [e0, e1, e2, e3, e4, e5, e6, e7, e8]) [] := by
  refine call_rt (fd := Sh.fd17) (env := [some (.val (rulT (planT g) (chT c0 c1 c2 c3 c4 c5 c6 c7 c8))), some (.val (rulT (planT g') (chT a0 a1 a2 a3 a4 a5 a6 a7 a8)))]) rfl rfl ?_
  have b := unlike_ev d g g' pe hp q
  simp [Sh.fd17, Sh.ir17, qE_int, qE_bl, qE_non, qE_str, qE_cst, qE_rd, qE_rdx, qE_op, qE_neg, qE_cmp, qE_chn, qE_one, qE_and, qE_or, qE_not, qE_ife, qE_tup, qE_lst, qE_ix, qE_sl, qE_bi, qE_isi, qE_isis, qE_call, qE_callk, qE_lenS, qE_srtS, qE_lrng3, qE_rev, qE_alt, qE_fld, qE_fldv, qE_meth, qE_methv, qE_prop, qE_new, qE_newst, qE_newdd, qE_deq, qE_callw, qE_own, qE_ownE, qE_ownB, qE_ownN, qE_ownI, qE_isc, qE_dct, qE_items, qE_kin, qE_kget, qE_klist, qE_popv, qE_lenv, qE_cmpv, qE_lrng, qSe_of, qEs_nil, qEs_cons, qO_no, qO_so, qT_v, qT_one, qT_and, qT_or, qT_not, qTs_nil, qTs_cons, qI_e, qI_rng, qI_keys, qI_keysv, qI_kk, qI_enum, qI_zip, qA_nil, qA_cons, qA_io, qS_asg, qS_asgT, qS_par, qS_setx, qS_app, qS_expr, qS_ret, qS_retv, qS_retn, qS_ife, qS_setf, qS_appx, qS_clrt, qS_pass, qS_never, qSs_nil, qSs_cons, R.bind, R.of, W.fz, fzs, backO, callR, newR, cmpT, cmpI2, cmpInt, T.tru, opT, opInt, biT, lenT, listT, tupleT, intT, allT, hidOk, tgIn, wipeE, backE, isiT, tyT, Ty.sub, ixT, b]
theorem eq_ev (g g' : T) (pe : Bool) (hp : eqT g g' = some pe) (q : Eq9 c0 c1 c2 c3 c4 c5 c6 c7 c8 a0 a1 a2 a3 a4 a5 a6 a7 a8 e0 e1 e2 e3 e4 e5 e6 e7 e8) :
    Cl (d + 2) 18 [.val (rulT (planT g) (chT c0 c1 c2 c3 c4 c5 c6 c7 c8)), .val (rulT (planT g') (chT a0 a1 a2 a3 a4 a5 a6 a7 a8))] = .ok (.val (.bl (pe && (e0 && (e1 && (e2 && (e3 && (e4 && (e5 && (e6 && (e7 && e8))))))))))) [] := by
  refine call_rt (fd := Sh.fd18) (env := [some (.val (rulT (planT g) (chT c0 c1 c2 c3 c4 c5 c6 c7 c8))), some (.val (rulT (planT g') (chT a0 a1 a2 a3 a4 a5 a6 a7 a8)))]) rfl rfl ?_
  have b := plan_eq d g g' pe hp
  obtain ⟨h0, h1, h2, h3, h4, h5, h6, h7, h8⟩ := q
  have dq : deqT (chT c0 c1 c2 c3 c4 c5 c6 c7 c8) (chT a0 a1 a2 a3 a4 a5 a6 a7 a8) = some (e0 && (e1 && (e2 && (e3 && (e4 && (e5 && (e6 && (e7 && e8)))))))) := by
    simp [deqT, chT, Nd.keys, kch, inrs, hitsT, getN, str_inj, h0, h1, h2, h3, h4, h5, h6, h7, h8]
  simp only [planT] at b
  cases pe <;> simp [Sh.fd18, Sh.ir18, qE_int, qE_bl, qE_non, qE_str, qE_cst, qE_rd, qE_rdx, qE_op, qE_neg, qE_cmp, qE_chn, qE_one, qE_and, qE_or, qE_not, qE_ife, qE_tup, qE_lst, qE_ix, qE_sl, qE_bi, qE_isi, qE_isis, qE_call, qE_callk, qE_lenS, qE_srtS, qE_lrng3, qE_rev, qE_alt, qE_fld, qE_fldv, qE_meth, qE_methv, qE_prop, qE_new, qE_newst, qE_newdd, qE_deq, qE_callw, qE_own, qE_ownE, qE_ownB, qE_ownN, qE_ownI, qE_isc, qE_dct, qE_items, qE_kin, qE_kget, qE_klist, qE_popv, qE_lenv, qE_cmpv, qE_lrng, qSe_of, qEs_nil, qEs_cons, qO_no, qO_so, qT_v, qT_one, qT_and, qT_or, qT_not, qTs_nil, qTs_cons, qI_e, qI_rng, qI_keys, qI_keysv, qI_kk, qI_enum, qI_zip, qA_nil, qA_cons, qA_io, qS_asg, qS_asgT, qS_par, qS_setx, qS_app, qS_expr, qS_ret, qS_retv, qS_retn, qS_ife, qS_setf, qS_appx, qS_clrt, qS_pass, qS_never, qSs_nil, qSs_cons, R.bind, R.of, W.fz, fzs, backO, callR, newR, cmpT, cmpI2, cmpInt, T.tru, opT, opInt, biT, lenT, listT, tupleT, intT, allT, hidOk, tgIn, wipeE, backE, isiT, tyT, Ty.sub, ixT, rulT, fldT, getN, iscT, isOf, str_inj, planT, b, dq]
end
end Zk04
namespace Ev
open PySem
variable {G : Nat → Option T} {C : Calls}
/-- a loop by an invariant -/
theorem forL_inv {tg : Tg} {body : Env → R F} {P : Env → Prop} : ∀ (ts : List T) (env : Env), P env → (∀ t ∈ ts, ∀ env, P env → ∃ env1, tgE tg t env = some env1 ∧ ∃ env2, body env1 = .ok .nx env2 ∧ P env2) → ∃ env', forL tg body ts env = .ok .nx env' ∧ P env'
  | [], env, p, _ => ⟨env, rfl, p⟩
  | t :: r, env, p, h => by
    obtain ⟨env1, e1, env2, e2, p2⟩ := h t List.mem_cons_self env p
    obtain ⟨env', e3, p3⟩ := forL_inv r env2 p2 fun u hu => h u (List.mem_cons_of_mem _ hu)
    refine ⟨env', ?_, p3⟩
    show (match tgE tg t env with | none => R.no | some env1 => _) = _
    rw [e1]
    show (body env1).bind _ = _
    rw [e2]
    exact e3
theorem for_inv {tg : Tg} {it : It} {b : Ss} {env env1 : Env} {ts : List T} {P : Env → Prop} (h1 : evI G C it env = .ok ts env1) (p1 : P env1) (h : ∀ t ∈ ts, ∀ env, P env → ∃ env1, tgE tg t env = some env1 ∧ ∃ env2, evSs G C b env1 = .ok .nx env2 ∧ P env2) :
    ∃ env', evS G C (.for_ tg it b) env = .ok .nx env' ∧ P env' := by
  obtain ⟨env', e, p⟩ := forL_inv ts env1 p1 h
  refine ⟨env', ?_, p⟩
  rw [qS_for, h1]
  exact e
end Ev
namespace Zk04
open PySem L2 Ev
section
variable (d : Nat) {c0 c1 c2 c3 c4 c5 c6 c7 c8 a0 a1 a2 a3 a4 a5 a6 a7 a8 : T} {e0 e1 e2 e3 e4 e5 e6 e7 e8 : Bool}
def pairT (gs : List (List Str)) (c : T) : T := .lst [.lst (gs.map gT1), c]
theorem lunl_ev (gs gs' : List (List Str)) (hl : gs.length ≤ 5) (hl' : gs'.length ≤ 5) (pe : Bool) (hp : eqT (sgT gs) (sgT gs') = some pe) (q : Eq9 c0 c1 c2 c3 c4 c5 c6 c7 c8 a0 a1 a2 a3 a4 a5 a6 a7 a8 e0 e1 e2 e3 e4 e5 e6 e7 e8) :
    Cl (d + 2) 32 [.val (pairT gs (chT c0 c1 c2 c3 c4 c5 c6 c7 c8)), .val (pairT gs' (chT a0 a1 a2 a3 a4 a5 a6 a7 a8))] = .ok (unlW pe [e0, e1, e2, e3, e4, e5, e6, e7, e8]) [] := by
  have s1 := srt_lc (Cl (d + 1)) 3 (.e (.ix (.rd 0) (.int 0))) [some (.val (pairT gs (chT c0 c1 c2 c3 c4 c5 c6 c7 c8))), some (.val (pairT gs' (chT a0 a1 a2 a3 a4 a5 a6 a7 a8))), none, none, none] gs hl rfl rfl
  have s2 := srt_lc (Cl (d + 1)) 3 (.e (.ix (.rd 1) (.int 0))) [some (.val (pairT gs (chT c0 c1 c2 c3 c4 c5 c6 c7 c8))), some (.val (pairT gs' (chT a0 a1 a2 a3 a4 a5 a6 a7 a8))), none, none, none] gs' hl' rfl rfl
  have eqr : eqT (.lst (sgs gs)) (.lst (sgs gs')) = some pe := by rw [eqT_row]; exact hp
  obtain ⟨h0, h1, h2, h3, h4, h5, h6, h7, h8⟩ := q
  have l : lcL (.var 4) [4] (evTs (cstG tx.cs) (Cl (d + 1)) (.cons (.v (.cmp .NotEq (.ix (.ix (.rd 0) (.int 1)) (.rd 4)) (.ix (.ix (.rd 1) (.int 1)) (.rd 4)))) .nil)) (evE (cstG tx.cs) (Cl (d + 1)) (.rd 4)) (nm9.map .str) []
      [some (.val (pairT gs (chT c0 c1 c2 c3 c4 c5 c6 c7 c8))), some (.val (pairT gs' (chT a0 a1 a2 a3 a4 a5 a6 a7 a8))), some (.val (.bl (!pe))), none, none] = .ok ([] ++ (nm9.filter (pk [e0, e1, e2, e3, e4, e5, e6, e7, e8])).map fun n => .val (.str n)) [some (.val (pairT gs (chT c0 c1 c2 c3 c4 c5 c6 c7 c8))), some (.val (pairT gs' (chT a0 a1 a2 a3 a4 a5 a6 a7 a8))), some (.val (.bl (!pe))), none, none] := by
    refine lcL_eq rfl nm9 [] (by decide) fun n hn => ⟨?_, fun _ => rfl⟩
    simp only [nm9, List.mem_cons, List.not_mem_nil, or_false] at hn
    rcases hn with rfl | rfl | rfl | rfl | rfl | rfl | rfl | rfl | rfl
    all_goals
      simp [qE_int, qE_bl, qE_non, qE_str, qE_cst, qE_rd, qE_rdx, qE_op, qE_neg, qE_cmp, qE_chn, qE_one, qE_and, qE_or, qE_not, qE_ife, qE_tup, qE_lst, qE_ix, qE_sl, qE_bi, qE_isi, qE_isis, qE_call, qE_callk, qE_lenS, qE_srtS, qE_lrng3, qE_rev, qE_alt, qE_fld, qE_fldv, qE_meth, qE_methv, qE_prop, qE_new, qE_newst, qE_newdd, qE_deq, qE_callw, qE_own, qE_ownE, qE_ownB, qE_ownN, qE_ownI, qE_isc, qE_dct, qE_items, qE_kin, qE_kget, qE_klist, qE_popv, qE_lenv, qE_cmpv, qE_lrng, qSe_of, qEs_nil, qEs_cons, qO_no, qO_so, qT_v, qT_one, qT_and, qT_or, qT_not, qTs_nil, qTs_cons, qI_e, qI_rng, qI_keys, qI_keysv, qI_kk, qI_enum, qI_zip, qA_nil, qA_cons, qA_io, qS_asg, qS_asgT, qS_par, qS_setx, qS_app, qS_expr, qS_ret, qS_retv, qS_retn, qS_ife, qS_setf, qS_appx, qS_clrt, qS_pass, qS_never, qSs_nil, qSs_cons, R.bind, R.of, W.fz, fzs, backO, callR, newR, cmpT, cmpI2, cmpInt, T.tru, opT, opInt, biT, lenT, listT, tupleT, intT, allT, hidOk, tgIn, wipeE, backE, isiT, tyT, Ty.sub, ixT, pairT, chT, atI, ixN, getN, Nd.keys, kch, inrs, keyT, str_inj, pk, nm9, h0, h1, h2, h3, h4, h5, h6, h7, h8]
      try (cases e0 <;> rfl)
      try (cases e1 <;> rfl)
      try (cases e2 <;> rfl)
      try (cases e3 <;> rfl)
      try (cases e4 <;> rfl)
      try (cases e5 <;> rfl)
      try (cases e6 <;> rfl)
      try (cases e7 <;> rfl)
      try (cases e8 <;> rfl)
  rw [List.nil_append] at l
  have v := ev_lc (G := cstG tx.cs) (C := Cl (d + 1)) (it := .keys (.call 25 .nil [])) (own := [4]) (tg := .var 4) (ts := nm9.map .str) (env := [some (.val (pairT gs (chT c0 c1 c2 c3 c4 c5 c6 c7 c8))), some (.val (pairT gs' (chT a0 a1 a2 a3 a4 a5 a6 a7 a8))), some (.val (.bl (!pe))), none, none])
    (env1 := [some (.val (pairT gs (chT c0 c1 c2 c3 c4 c5 c6 c7 c8))), some (.val (pairT gs' (chT a0 a1 a2 a3 a4 a5 a6 a7 a8))), some (.val (.bl (!pe))), none, none]) (by kernel_rfl) rfl l
  refine call_rt (fd := fd32) (env := [some (.val (pairT gs (chT c0 c1 c2 c3 c4 c5 c6 c7 c8))), some (.val (pairT gs' (chT a0 a1 a2 a3 a4 a5 a6 a7 a8))), some (.val (.bl (!pe))), none, none]) rfl rfl ?_
  refine ss_step (s := Ss.at_ 0 ir32) (env1 := [some (.val (pairT gs (chT c0 c1 c2 c3 c4 c5 c6 c7 c8))), some (.val (pairT gs' (chT a0 a1 a2 a3 a4 a5 a6 a7 a8))), some (.val (.bl (!pe))), none, none]) ?_ ?_
  · simp [Ss.at_, fd32, ir32, qE_int, qE_bl, qE_non, qE_str, qE_cst, qE_rd, qE_rdx, qE_op, qE_neg, qE_cmp, qE_chn, qE_one, qE_and, qE_or, qE_not, qE_ife, qE_tup, qE_lst, qE_ix, qE_sl, qE_bi, qE_isi, qE_isis, qE_call, qE_callk, qE_lenS, qE_srtS, qE_lrng3, qE_rev, qE_alt, qE_fld, qE_fldv, qE_meth, qE_methv, qE_prop, qE_new, qE_newst, qE_newdd, qE_deq, qE_callw, qE_own, qE_ownE, qE_ownB, qE_ownN, qE_ownI, qE_isc, qE_dct, qE_items, qE_kin, qE_kget, qE_klist, qE_popv, qE_lenv, qE_cmpv, qE_lrng, qSe_of, qEs_nil, qEs_cons, qO_no, qO_so, qT_v, qT_one, qT_and, qT_or, qT_not, qTs_nil, qTs_cons, qI_e, qI_rng, qI_keys, qI_keysv, qI_kk, qI_enum, qI_zip, qA_nil, qA_cons, qA_io, qS_asg, qS_asgT, qS_par, qS_setx, qS_app, qS_expr, qS_ret, qS_retv, qS_retn, qS_ife, qS_setf, qS_appx, qS_clrt, qS_pass, qS_never, qSs_nil, qSs_cons, R.bind, R.of, W.fz, fzs, backO, callR, newR, cmpT, cmpI2, cmpInt, T.tru, opT, opInt, biT, lenT, listT, tupleT, intT, allT, hidOk, tgIn, wipeE, backE, isiT, tyT, Ty.sub, ixT, s1, s2, sgs_fz, eqr]
  · have fl : (nm9.filter (pk [e0, e1, e2, e3, e4, e5, e6, e7, e8])).length ≤ 9 := List.length_filter_le _ _
    have hl : (if pe then [] else [("plan" : Str)]).length + (nm9.filter (pk [e0, e1, e2, e3, e4, e5, e6, e7, e8])).length ≤ 16777216 := by cases pe <;> simp <;> omega
    have op := opAdd_strs _ _ hl
    have m1 : evE (cstG tx.cs) (Cl (d + 1)) (.op .Mult (.lst (.cons (.str "plan") .nil)) (.bi .int (.cons (.rd 2) .nil))) [some (.val (pairT gs (chT c0 c1 c2 c3 c4 c5 c6 c7 c8))), some (.val (pairT gs' (chT a0 a1 a2 a3 a4 a5 a6 a7 a8))), some (.val (.bl (!pe))), none, none] =
        .ok (.lst ((if pe then [] else [("plan" : Str)]).map fun n => .val (.str n))) [some (.val (pairT gs (chT c0 c1 c2 c3 c4 c5 c6 c7 c8))), some (.val (pairT gs' (chT a0 a1 a2 a3 a4 a5 a6 a7 a8))), some (.val (.bl (!pe))), none, none] := by cases pe <;> kernel_rfl
    show (evS (cstG tx.cs) (Cl (d + 1)) (.ret (.op .Add (.op .Mult (.lst (.cons (.str "plan") .nil)) (.bi .int (.cons (.rd 2) .nil))) (.lc [4] (.var 4) (.keys (.call 25 .nil [])) (.cons (.v (.cmp .NotEq (.ix (.ix (.rd 0) (.int 1)) (.rd 4)) (.ix (.ix (.rd 1) (.int 1)) (.rd 4)))) .nil) (.rd 4)))) _).bind _ = _
    rw [qS_ret, qE_op, m1]
    show ((evE (cstG tx.cs) (Cl (d + 1)) (.lc [4] (.var 4) (.keys (.call 25 .nil [])) _ (.rd 4)) _).bind _ |>.bind _ |>.bind _) = _
    rw [v]
    show ((R.of (opT .Add (.lst (fzs ((if pe then [] else [("plan" : Str)]).map fun n => W.val (.str n)))) (.lst (fzs ((nm9.filter (pk [e0, e1, e2, e3, e4, e5, e6, e7, e8])).map fun n => W.val (.str n))))) _).bind _ |>.bind _) = _
    rw [fzs_strs, fzs_strs, op]
    rfl
theorem chg0 (g v : T) (k : ChOk c0 c1 c2 c3 c4 c5 c6 c7 c8) (hv : v ∈ ([.str "quiet", .str "any"] : List T)) : Cl (d + 5) 15 [.val (rulT (planT g) (chT c0 c1 c2 c3 c4 c5 c6 c7 c8)), .val (.str "clear"), .val v] = .ok (rulW (planT g) v c1 c2 c3 c4 c5 c6 c7 c8) [] := by
  refine call_rt (fd := Sh.fd15) (env := [some (.val (rulT (planT g) (chT c0 c1 c2 c3 c4 c5 c6 c7 c8))), some (.val (.str "clear")), some (.val v), some (.val (chT v c1 c2 c3 c4 c5 c6 c7 c8))]) rfl rfl ?_
  have b := init_ev d g v c1 c2 c3 c4 c5 c6 c7 c8 ⟨hv, k.h1, k.h2, k.h3, k.h4, k.h5, k.h6, k.h7, k.h8⟩
  have e1 : evSs (cstG tx.cs) (Cl (d + 4)) Sh.fd15.body ([.val (rulT (planT g) (chT c0 c1 c2 c3 c4 c5 c6 c7 c8)), .val (.str "clear"), .val v].map some ++ List.replicate (Sh.fd15.ns - Sh.fd15.np) none) = evSs (cstG tx.cs) (Cl (d + 4)) (Ss.from_ 4 Sh.ir15)
    [some (.val (rulT (planT g) (chT c0 c1 c2 c3 c4 c5 c6 c7 c8))), some (.val (.str "clear")), some (.val v), some (.nd (.dct kch) [.val v, .val c1, .val c2, .val c3, .val c4, .val c5, .val c6, .val c7, .val c8])] := by kernel_rfl
  rw [e1]
  simp [Ss.from_, Sh.ir15, qE_int, qE_bl, qE_non, qE_str, qE_cst, qE_rd, qE_rdx, qE_op, qE_neg, qE_cmp, qE_chn, qE_one, qE_and, qE_or, qE_not, qE_ife, qE_tup, qE_lst, qE_ix, qE_sl, qE_bi, qE_isi, qE_isis, qE_call, qE_callk, qE_lenS, qE_srtS, qE_lrng3, qE_rev, qE_alt, qE_fld, qE_fldv, qE_meth, qE_methv, qE_prop, qE_new, qE_newst, qE_newdd, qE_deq, qE_callw, qE_own, qE_ownE, qE_ownB, qE_ownN, qE_ownI, qE_isc, qE_dct, qE_items, qE_kin, qE_kget, qE_klist, qE_popv, qE_lenv, qE_cmpv, qE_lrng, qSe_of, qEs_nil, qEs_cons, qO_no, qO_so, qT_v, qT_one, qT_and, qT_or, qT_not, qTs_nil, qTs_cons, qI_e, qI_rng, qI_keys, qI_keysv, qI_kk, qI_enum, qI_zip, qA_nil, qA_cons, qA_io, qS_asg, qS_asgT, qS_par, qS_setx, qS_app, qS_expr, qS_ret, qS_retv, qS_retn, qS_ife, qS_setf, qS_appx, qS_clrt, qS_pass, qS_never, qSs_nil, qSs_cons, R.bind, R.of, W.fz, fzs, backO, callR, newR, cmpT, cmpI2, cmpInt, T.tru, opT, opInt, biT, lenT, listT, tupleT, intT, allT, hidOk, tgIn, wipeE, backE, isiT, tyT, Ty.sub, ixT, rulT, fldT, getN, str_inj, kdct, Nd.keys, kch, inrs, isKw, arr, b, chT]
theorem chg1 (g v : T) (k : ChOk c0 c1 c2 c3 c4 c5 c6 c7 c8) (hv : v ∈ ([.str "first", .str "ahead", .str "late"] : List T)) : Cl (d + 5) 15 [.val (rulT (planT g) (chT c0 c1 c2 c3 c4 c5 c6 c7 c8)), .val (.str "flag"), .val v] = .ok (rulW (planT g) c0 v c2 c3 c4 c5 c6 c7 c8) [] := by
  refine call_rt (fd := Sh.fd15) (env := [some (.val (rulT (planT g) (chT c0 c1 c2 c3 c4 c5 c6 c7 c8))), some (.val (.str "flag")), some (.val v), some (.val (chT c0 v c2 c3 c4 c5 c6 c7 c8))]) rfl rfl ?_
  have b := init_ev d g c0 v c2 c3 c4 c5 c6 c7 c8 ⟨k.h0, hv, k.h2, k.h3, k.h4, k.h5, k.h6, k.h7, k.h8⟩
  have e1 : evSs (cstG tx.cs) (Cl (d + 4)) Sh.fd15.body ([.val (rulT (planT g) (chT c0 c1 c2 c3 c4 c5 c6 c7 c8)), .val (.str "flag"), .val v].map some ++ List.replicate (Sh.fd15.ns - Sh.fd15.np) none) = evSs (cstG tx.cs) (Cl (d + 4)) (Ss.from_ 4 Sh.ir15)
    [some (.val (rulT (planT g) (chT c0 c1 c2 c3 c4 c5 c6 c7 c8))), some (.val (.str "flag")), some (.val v), some (.nd (.dct kch) [.val c0, .val v, .val c2, .val c3, .val c4, .val c5, .val c6, .val c7, .val c8])] := by kernel_rfl
  rw [e1]
  simp [Ss.from_, Sh.ir15, qE_int, qE_bl, qE_non, qE_str, qE_cst, qE_rd, qE_rdx, qE_op, qE_neg, qE_cmp, qE_chn, qE_one, qE_and, qE_or, qE_not, qE_ife, qE_tup, qE_lst, qE_ix, qE_sl, qE_bi, qE_isi, qE_isis, qE_call, qE_callk, qE_lenS, qE_srtS, qE_lrng3, qE_rev, qE_alt, qE_fld, qE_fldv, qE_meth, qE_methv, qE_prop, qE_new, qE_newst, qE_newdd, qE_deq, qE_callw, qE_own, qE_ownE, qE_ownB, qE_ownN, qE_ownI, qE_isc, qE_dct, qE_items, qE_kin, qE_kget, qE_klist, qE_popv, qE_lenv, qE_cmpv, qE_lrng, qSe_of, qEs_nil, qEs_cons, qO_no, qO_so, qT_v, qT_one, qT_and, qT_or, qT_not, qTs_nil, qTs_cons, qI_e, qI_rng, qI_keys, qI_keysv, qI_kk, qI_enum, qI_zip, qA_nil, qA_cons, qA_io, qS_asg, qS_asgT, qS_par, qS_setx, qS_app, qS_expr, qS_ret, qS_retv, qS_retn, qS_ife, qS_setf, qS_appx, qS_clrt, qS_pass, qS_never, qSs_nil, qSs_cons, R.bind, R.of, W.fz, fzs, backO, callR, newR, cmpT, cmpI2, cmpInt, T.tru, opT, opInt, biT, lenT, listT, tupleT, intT, allT, hidOk, tgIn, wipeE, backE, isiT, tyT, Ty.sub, ixT, rulT, fldT, getN, str_inj, kdct, Nd.keys, kch, inrs, isKw, arr, b, chT]
theorem chg2 (g v : T) (k : ChOk c0 c1 c2 c3 c4 c5 c6 c7 c8) (hv : v ∈ ([.str "early", .str "ahead", .str "behind"] : List T)) : Cl (d + 5) 15 [.val (rulT (planT g) (chT c0 c1 c2 c3 c4 c5 c6 c7 c8)), .val (.str "unflag"), .val v] = .ok (rulW (planT g) c0 c1 v c3 c4 c5 c6 c7 c8) [] := by
  refine call_rt (fd := Sh.fd15) (env := [some (.val (rulT (planT g) (chT c0 c1 c2 c3 c4 c5 c6 c7 c8))), some (.val (.str "unflag")), some (.val v), some (.val (chT c0 c1 v c3 c4 c5 c6 c7 c8))]) rfl rfl ?_
  have b := init_ev d g c0 c1 v c3 c4 c5 c6 c7 c8 ⟨k.h0, k.h1, hv, k.h3, k.h4, k.h5, k.h6, k.h7, k.h8⟩
  have e1 : evSs (cstG tx.cs) (Cl (d + 4)) Sh.fd15.body ([.val (rulT (planT g) (chT c0 c1 c2 c3 c4 c5 c6 c7 c8)), .val (.str "unflag"), .val v].map some ++ List.replicate (Sh.fd15.ns - Sh.fd15.np) none) = evSs (cstG tx.cs) (Cl (d + 4)) (Ss.from_ 4 Sh.ir15)
    [some (.val (rulT (planT g) (chT c0 c1 c2 c3 c4 c5 c6 c7 c8))), some (.val (.str "unflag")), some (.val v), some (.nd (.dct kch) [.val c0, .val c1, .val v, .val c3, .val c4, .val c5, .val c6, .val c7, .val c8])] := by kernel_rfl
  rw [e1]
  simp [Ss.from_, Sh.ir15, qE_int, qE_bl, qE_non, qE_str, qE_cst, qE_rd, qE_rdx, qE_op, qE_neg, qE_cmp, qE_chn, qE_one, qE_and, qE_or, qE_not, qE_ife, qE_tup, qE_lst, qE_ix, qE_sl, qE_bi, qE_isi, qE_isis, qE_call, qE_callk, qE_lenS, qE_srtS, qE_lrng3, qE_rev, qE_alt, qE_fld, qE_fldv, qE_meth, qE_methv, qE_prop, qE_new, qE_newst, qE_newdd, qE_deq, qE_callw, qE_own, qE_ownE, qE_ownB, qE_ownN, qE_ownI, qE_isc, qE_dct, qE_items, qE_kin, qE_kget, qE_klist, qE_popv, qE_lenv, qE_cmpv, qE_lrng, qSe_of, qEs_nil, qEs_cons, qO_no, qO_so, qT_v, qT_one, qT_and, qT_or, qT_not, qTs_nil, qTs_cons, qI_e, qI_rng, qI_keys, qI_keysv, qI_kk, qI_enum, qI_zip, qA_nil, qA_cons, qA_io, qS_asg, qS_asgT, qS_par, qS_setx, qS_app, qS_expr, qS_ret, qS_retv, qS_retn, qS_ife, qS_setf, qS_appx, qS_clrt, qS_pass, qS_never, qSs_nil, qSs_cons, R.bind, R.of, W.fz, fzs, backO, callR, newR, cmpT, cmpI2, cmpInt, T.tru, opT, opInt, biT, lenT, listT, tupleT, intT, allT, hidOk, tgIn, wipeE, backE, isiT, tyT, Ty.sub, ixT, rulT, fldT, getN, str_inj, kdct, Nd.keys, kch, inrs, isKw, arr, b, chT]
theorem chg3 (g v : T) (k : ChOk c0 c1 c2 c3 c4 c5 c6 c7 c8) (hv : v ∈ ([.str "any", .str "flagged", .str "both"] : List T)) : Cl (d + 5) 15 [.val (rulT (planT g) (chT c0 c1 c2 c3 c4 c5 c6 c7 c8)), .val (.str "start"), .val v] = .ok (rulW (planT g) c0 c1 c2 v c4 c5 c6 c7 c8) [] := by
  refine call_rt (fd := Sh.fd15) (env := [some (.val (rulT (planT g) (chT c0 c1 c2 c3 c4 c5 c6 c7 c8))), some (.val (.str "start")), some (.val v), some (.val (chT c0 c1 c2 v c4 c5 c6 c7 c8))]) rfl rfl ?_
  have b := init_ev d g c0 c1 c2 v c4 c5 c6 c7 c8 ⟨k.h0, k.h1, k.h2, hv, k.h4, k.h5, k.h6, k.h7, k.h8⟩
  have e1 : evSs (cstG tx.cs) (Cl (d + 4)) Sh.fd15.body ([.val (rulT (planT g) (chT c0 c1 c2 c3 c4 c5 c6 c7 c8)), .val (.str "start"), .val v].map some ++ List.replicate (Sh.fd15.ns - Sh.fd15.np) none) = evSs (cstG tx.cs) (Cl (d + 4)) (Ss.from_ 4 Sh.ir15)
    [some (.val (rulT (planT g) (chT c0 c1 c2 c3 c4 c5 c6 c7 c8))), some (.val (.str "start")), some (.val v), some (.nd (.dct kch) [.val c0, .val c1, .val c2, .val v, .val c4, .val c5, .val c6, .val c7, .val c8])] := by kernel_rfl
  rw [e1]
  simp [Ss.from_, Sh.ir15, qE_int, qE_bl, qE_non, qE_str, qE_cst, qE_rd, qE_rdx, qE_op, qE_neg, qE_cmp, qE_chn, qE_one, qE_and, qE_or, qE_not, qE_ife, qE_tup, qE_lst, qE_ix, qE_sl, qE_bi, qE_isi, qE_isis, qE_call, qE_callk, qE_lenS, qE_srtS, qE_lrng3, qE_rev, qE_alt, qE_fld, qE_fldv, qE_meth, qE_methv, qE_prop, qE_new, qE_newst, qE_newdd, qE_deq, qE_callw, qE_own, qE_ownE, qE_ownB, qE_ownN, qE_ownI, qE_isc, qE_dct, qE_items, qE_kin, qE_kget, qE_klist, qE_popv, qE_lenv, qE_cmpv, qE_lrng, qSe_of, qEs_nil, qEs_cons, qO_no, qO_so, qT_v, qT_one, qT_and, qT_or, qT_not, qTs_nil, qTs_cons, qI_e, qI_rng, qI_keys, qI_keysv, qI_kk, qI_enum, qI_zip, qA_nil, qA_cons, qA_io, qS_asg, qS_asgT, qS_par, qS_setx, qS_app, qS_expr, qS_ret, qS_retv, qS_retn, qS_ife, qS_setf, qS_appx, qS_clrt, qS_pass, qS_never, qSs_nil, qSs_cons, R.bind, R.of, W.fz, fzs, backO, callR, newR, cmpT, cmpI2, cmpInt, T.tru, opT, opInt, biT, lenT, listT, tupleT, intT, allT, hidOk, tgIn, wipeE, backE, isiT, tyT, Ty.sub, ixT, rulT, fldT, getN, str_inj, kdct, Nd.keys, kch, inrs, isKw, arr, b, chT]
theorem chg4 (g v : T) (k : ChOk c0 c1 c2 c3 c4 c5 c6 c7 c8) (hv : v ∈ ([.int 0, .int 1] : List T)) : Cl (d + 5) 15 [.val (rulT (planT g) (chT c0 c1 c2 c3 c4 c5 c6 c7 c8)), .val (.str "choice"), .val v] = .ok (rulW (planT g) c0 c1 c2 c3 v c5 c6 c7 c8) [] := by
  refine call_rt (fd := Sh.fd15) (env := [some (.val (rulT (planT g) (chT c0 c1 c2 c3 c4 c5 c6 c7 c8))), some (.val (.str "choice")), some (.val v), some (.val (chT c0 c1 c2 c3 v c5 c6 c7 c8))]) rfl rfl ?_
  have b := init_ev d g c0 c1 c2 c3 v c5 c6 c7 c8 ⟨k.h0, k.h1, k.h2, k.h3, hv, k.h5, k.h6, k.h7, k.h8⟩
  have e1 : evSs (cstG tx.cs) (Cl (d + 4)) Sh.fd15.body ([.val (rulT (planT g) (chT c0 c1 c2 c3 c4 c5 c6 c7 c8)), .val (.str "choice"), .val v].map some ++ List.replicate (Sh.fd15.ns - Sh.fd15.np) none) = evSs (cstG tx.cs) (Cl (d + 4)) (Ss.from_ 4 Sh.ir15)
    [some (.val (rulT (planT g) (chT c0 c1 c2 c3 c4 c5 c6 c7 c8))), some (.val (.str "choice")), some (.val v), some (.nd (.dct kch) [.val c0, .val c1, .val c2, .val c3, .val v, .val c5, .val c6, .val c7, .val c8])] := by kernel_rfl
  rw [e1]
  simp [Ss.from_, Sh.ir15, qE_int, qE_bl, qE_non, qE_str, qE_cst, qE_rd, qE_rdx, qE_op, qE_neg, qE_cmp, qE_chn, qE_one, qE_and, qE_or, qE_not, qE_ife, qE_tup, qE_lst, qE_ix, qE_sl, qE_bi, qE_isi, qE_isis, qE_call, qE_callk, qE_lenS, qE_srtS, qE_lrng3, qE_rev, qE_alt, qE_fld, qE_fldv, qE_meth, qE_methv, qE_prop, qE_new, qE_newst, qE_newdd, qE_deq, qE_callw, qE_own, qE_ownE, qE_ownB, qE_ownN, qE_ownI, qE_isc, qE_dct, qE_items, qE_kin, qE_kget, qE_klist, qE_popv, qE_lenv, qE_cmpv, qE_lrng, qSe_of, qEs_nil, qEs_cons, qO_no, qO_so, qT_v, qT_one, qT_and, qT_or, qT_not, qTs_nil, qTs_cons, qI_e, qI_rng, qI_keys, qI_keysv, qI_kk, qI_enum, qI_zip, qA_nil, qA_cons, qA_io, qS_asg, qS_asgT, qS_par, qS_setx, qS_app, qS_expr, qS_ret, qS_retv, qS_retn, qS_ife, qS_setf, qS_appx, qS_clrt, qS_pass, qS_never, qSs_nil, qSs_cons, R.bind, R.of, W.fz, fzs, backO, callR, newR, cmpT, cmpI2, cmpInt, T.tru, opT, opInt, biT, lenT, listT, tupleT, intT, allT, hidOk, tgIn, wipeE, backE, isiT, tyT, Ty.sub, ixT, rulT, fldT, getN, str_inj, kdct, Nd.keys, kch, inrs, isKw, arr, b, chT]
theorem chg5 (g v : T) (k : ChOk c0 c1 c2 c3 c4 c5 c6 c7 c8) (hv : v ∈ ([.str "both", .str "source"] : List T)) : Cl (d + 5) 15 [.val (rulT (planT g) (chT c0 c1 c2 c3 c4 c5 c6 c7 c8)), .val (.str "copied"), .val v] = .ok (rulW (planT g) c0 c1 c2 c3 c4 v c6 c7 c8) [] := by
  refine call_rt (fd := Sh.fd15) (env := [some (.val (rulT (planT g) (chT c0 c1 c2 c3 c4 c5 c6 c7 c8))), some (.val (.str "copied")), some (.val v), some (.val (chT c0 c1 c2 c3 c4 v c6 c7 c8))]) rfl rfl ?_
  have b := init_ev d g c0 c1 c2 c3 c4 v c6 c7 c8 ⟨k.h0, k.h1, k.h2, k.h3, k.h4, hv, k.h6, k.h7, k.h8⟩
  have e1 : evSs (cstG tx.cs) (Cl (d + 4)) Sh.fd15.body ([.val (rulT (planT g) (chT c0 c1 c2 c3 c4 c5 c6 c7 c8)), .val (.str "copied"), .val v].map some ++ List.replicate (Sh.fd15.ns - Sh.fd15.np) none) = evSs (cstG tx.cs) (Cl (d + 4)) (Ss.from_ 4 Sh.ir15)
    [some (.val (rulT (planT g) (chT c0 c1 c2 c3 c4 c5 c6 c7 c8))), some (.val (.str "copied")), some (.val v), some (.nd (.dct kch) [.val c0, .val c1, .val c2, .val c3, .val c4, .val v, .val c6, .val c7, .val c8])] := by kernel_rfl
  rw [e1]
  simp [Ss.from_, Sh.ir15, qE_int, qE_bl, qE_non, qE_str, qE_cst, qE_rd, qE_rdx, qE_op, qE_neg, qE_cmp, qE_chn, qE_one, qE_and, qE_or, qE_not, qE_ife, qE_tup, qE_lst, qE_ix, qE_sl, qE_bi, qE_isi, qE_isis, qE_call, qE_callk, qE_lenS, qE_srtS, qE_lrng3, qE_rev, qE_alt, qE_fld, qE_fldv, qE_meth, qE_methv, qE_prop, qE_new, qE_newst, qE_newdd, qE_deq, qE_callw, qE_own, qE_ownE, qE_ownB, qE_ownN, qE_ownI, qE_isc, qE_dct, qE_items, qE_kin, qE_kget, qE_klist, qE_popv, qE_lenv, qE_cmpv, qE_lrng, qSe_of, qEs_nil, qEs_cons, qO_no, qO_so, qT_v, qT_one, qT_and, qT_or, qT_not, qTs_nil, qTs_cons, qI_e, qI_rng, qI_keys, qI_keysv, qI_kk, qI_enum, qI_zip, qA_nil, qA_cons, qA_io, qS_asg, qS_asgT, qS_par, qS_setx, qS_app, qS_expr, qS_ret, qS_retv, qS_retn, qS_ife, qS_setf, qS_appx, qS_clrt, qS_pass, qS_never, qSs_nil, qSs_cons, R.bind, R.of, W.fz, fzs, backO, callR, newR, cmpT, cmpI2, cmpInt, T.tru, opT, opInt, biT, lenT, listT, tupleT, intT, allT, hidOk, tgIn, wipeE, backE, isiT, tyT, Ty.sub, ixT, rulT, fldT, getN, str_inj, kdct, Nd.keys, kch, inrs, isKw, arr, b, chT]
theorem chg6 (g v : T) (k : ChOk c0 c1 c2 c3 c4 c5 c6 c7 c8) (hv : v ∈ ([.str "lock", .str "again", .str "none"] : List T)) : Cl (d + 5) 15 [.val (rulT (planT g) (chT c0 c1 c2 c3 c4 c5 c6 c7 c8)), .val (.str "lock"), .val v] = .ok (rulW (planT g) c0 c1 c2 c3 c4 c5 v c7 c8) [] := by
  refine call_rt (fd := Sh.fd15) (env := [some (.val (rulT (planT g) (chT c0 c1 c2 c3 c4 c5 c6 c7 c8))), some (.val (.str "lock")), some (.val v), some (.val (chT c0 c1 c2 c3 c4 c5 v c7 c8))]) rfl rfl ?_
  have b := init_ev d g c0 c1 c2 c3 c4 c5 v c7 c8 ⟨k.h0, k.h1, k.h2, k.h3, k.h4, k.h5, hv, k.h7, k.h8⟩
  have e1 : evSs (cstG tx.cs) (Cl (d + 4)) Sh.fd15.body ([.val (rulT (planT g) (chT c0 c1 c2 c3 c4 c5 c6 c7 c8)), .val (.str "lock"), .val v].map some ++ List.replicate (Sh.fd15.ns - Sh.fd15.np) none) = evSs (cstG tx.cs) (Cl (d + 4)) (Ss.from_ 4 Sh.ir15)
    [some (.val (rulT (planT g) (chT c0 c1 c2 c3 c4 c5 c6 c7 c8))), some (.val (.str "lock")), some (.val v), some (.nd (.dct kch) [.val c0, .val c1, .val c2, .val c3, .val c4, .val c5, .val v, .val c7, .val c8])] := by kernel_rfl
  rw [e1]
  simp [Ss.from_, Sh.ir15, qE_int, qE_bl, qE_non, qE_str, qE_cst, qE_rd, qE_rdx, qE_op, qE_neg, qE_cmp, qE_chn, qE_one, qE_and, qE_or, qE_not, qE_ife, qE_tup, qE_lst, qE_ix, qE_sl, qE_bi, qE_isi, qE_isis, qE_call, qE_callk, qE_lenS, qE_srtS, qE_lrng3, qE_rev, qE_alt, qE_fld, qE_fldv, qE_meth, qE_methv, qE_prop, qE_new, qE_newst, qE_newdd, qE_deq, qE_callw, qE_own, qE_ownE, qE_ownB, qE_ownN, qE_ownI, qE_isc, qE_dct, qE_items, qE_kin, qE_kget, qE_klist, qE_popv, qE_lenv, qE_cmpv, qE_lrng, qSe_of, qEs_nil, qEs_cons, qO_no, qO_so, qT_v, qT_one, qT_and, qT_or, qT_not, qTs_nil, qTs_cons, qI_e, qI_rng, qI_keys, qI_keysv, qI_kk, qI_enum, qI_zip, qA_nil, qA_cons, qA_io, qS_asg, qS_asgT, qS_par, qS_setx, qS_app, qS_expr, qS_ret, qS_retv, qS_retn, qS_ife, qS_setf, qS_appx, qS_clrt, qS_pass, qS_never, qSs_nil, qSs_cons, R.bind, R.of, W.fz, fzs, backO, callR, newR, cmpT, cmpI2, cmpInt, T.tru, opT, opInt, biT, lenT, listT, tupleT, intT, allT, hidOk, tgIn, wipeE, backE, isiT, tyT, Ty.sub, ixT, rulT, fldT, getN, str_inj, kdct, Nd.keys, kch, inrs, isKw, arr, b, chT]
theorem chg7 (g v : T) (k : ChOk c0 c1 c2 c3 c4 c5 c6 c7 c8) (hv : v ∈ ([.bl true, .bl false] : List T)) : Cl (d + 5) 15 [.val (rulT (planT g) (chT c0 c1 c2 c3 c4 c5 c6 c7 c8)), .val (.str "held"), .val v] = .ok (rulW (planT g) c0 c1 c2 c3 c4 c5 c6 v c8) [] := by
  refine call_rt (fd := Sh.fd15) (env := [some (.val (rulT (planT g) (chT c0 c1 c2 c3 c4 c5 c6 c7 c8))), some (.val (.str "held")), some (.val v), some (.val (chT c0 c1 c2 c3 c4 c5 c6 v c8))]) rfl rfl ?_
  have b := init_ev d g c0 c1 c2 c3 c4 c5 c6 v c8 ⟨k.h0, k.h1, k.h2, k.h3, k.h4, k.h5, k.h6, hv, k.h8⟩
  have e1 : evSs (cstG tx.cs) (Cl (d + 4)) Sh.fd15.body ([.val (rulT (planT g) (chT c0 c1 c2 c3 c4 c5 c6 c7 c8)), .val (.str "held"), .val v].map some ++ List.replicate (Sh.fd15.ns - Sh.fd15.np) none) = evSs (cstG tx.cs) (Cl (d + 4)) (Ss.from_ 4 Sh.ir15)
    [some (.val (rulT (planT g) (chT c0 c1 c2 c3 c4 c5 c6 c7 c8))), some (.val (.str "held")), some (.val v), some (.nd (.dct kch) [.val c0, .val c1, .val c2, .val c3, .val c4, .val c5, .val c6, .val v, .val c8])] := by kernel_rfl
  rw [e1]
  simp [Ss.from_, Sh.ir15, qE_int, qE_bl, qE_non, qE_str, qE_cst, qE_rd, qE_rdx, qE_op, qE_neg, qE_cmp, qE_chn, qE_one, qE_and, qE_or, qE_not, qE_ife, qE_tup, qE_lst, qE_ix, qE_sl, qE_bi, qE_isi, qE_isis, qE_call, qE_callk, qE_lenS, qE_srtS, qE_lrng3, qE_rev, qE_alt, qE_fld, qE_fldv, qE_meth, qE_methv, qE_prop, qE_new, qE_newst, qE_newdd, qE_deq, qE_callw, qE_own, qE_ownE, qE_ownB, qE_ownN, qE_ownI, qE_isc, qE_dct, qE_items, qE_kin, qE_kget, qE_klist, qE_popv, qE_lenv, qE_cmpv, qE_lrng, qSe_of, qEs_nil, qEs_cons, qO_no, qO_so, qT_v, qT_one, qT_and, qT_or, qT_not, qTs_nil, qTs_cons, qI_e, qI_rng, qI_keys, qI_keysv, qI_kk, qI_enum, qI_zip, qA_nil, qA_cons, qA_io, qS_asg, qS_asgT, qS_par, qS_setx, qS_app, qS_expr, qS_ret, qS_retv, qS_retn, qS_ife, qS_setf, qS_appx, qS_clrt, qS_pass, qS_never, qSs_nil, qSs_cons, R.bind, R.of, W.fz, fzs, backO, callR, newR, cmpT, cmpI2, cmpInt, T.tru, opT, opInt, biT, lenT, listT, tupleT, intT, allT, hidOk, tgIn, wipeE, backE, isiT, tyT, Ty.sub, ixT, rulT, fldT, getN, str_inj, kdct, Nd.keys, kch, inrs, isKw, arr, b, chT]
theorem chg8 (g v : T) (k : ChOk c0 c1 c2 c3 c4 c5 c6 c7 c8) (hv : v ∈ ([.str "source", .str "any"] : List T)) : Cl (d + 5) 15 [.val (rulT (planT g) (chT c0 c1 c2 c3 c4 c5 c6 c7 c8)), .val (.str "read"), .val v] = .ok (rulW (planT g) c0 c1 c2 c3 c4 c5 c6 c7 v) [] := by
  refine call_rt (fd := Sh.fd15) (env := [some (.val (rulT (planT g) (chT c0 c1 c2 c3 c4 c5 c6 c7 c8))), some (.val (.str "read")), some (.val v), some (.val (chT c0 c1 c2 c3 c4 c5 c6 c7 v))]) rfl rfl ?_
  have b := init_ev d g c0 c1 c2 c3 c4 c5 c6 c7 v ⟨k.h0, k.h1, k.h2, k.h3, k.h4, k.h5, k.h6, k.h7, hv⟩
  have e1 : evSs (cstG tx.cs) (Cl (d + 4)) Sh.fd15.body ([.val (rulT (planT g) (chT c0 c1 c2 c3 c4 c5 c6 c7 c8)), .val (.str "read"), .val v].map some ++ List.replicate (Sh.fd15.ns - Sh.fd15.np) none) = evSs (cstG tx.cs) (Cl (d + 4)) (Ss.from_ 4 Sh.ir15)
    [some (.val (rulT (planT g) (chT c0 c1 c2 c3 c4 c5 c6 c7 c8))), some (.val (.str "read")), some (.val v), some (.nd (.dct kch) [.val c0, .val c1, .val c2, .val c3, .val c4, .val c5, .val c6, .val c7, .val v])] := by kernel_rfl
  rw [e1]
  simp [Ss.from_, Sh.ir15, qE_int, qE_bl, qE_non, qE_str, qE_cst, qE_rd, qE_rdx, qE_op, qE_neg, qE_cmp, qE_chn, qE_one, qE_and, qE_or, qE_not, qE_ife, qE_tup, qE_lst, qE_ix, qE_sl, qE_bi, qE_isi, qE_isis, qE_call, qE_callk, qE_lenS, qE_srtS, qE_lrng3, qE_rev, qE_alt, qE_fld, qE_fldv, qE_meth, qE_methv, qE_prop, qE_new, qE_newst, qE_newdd, qE_deq, qE_callw, qE_own, qE_ownE, qE_ownB, qE_ownN, qE_ownI, qE_isc, qE_dct, qE_items, qE_kin, qE_kget, qE_klist, qE_popv, qE_lenv, qE_cmpv, qE_lrng, qSe_of, qEs_nil, qEs_cons, qO_no, qO_so, qT_v, qT_one, qT_and, qT_or, qT_not, qTs_nil, qTs_cons, qI_e, qI_rng, qI_keys, qI_keysv, qI_kk, qI_enum, qI_zip, qA_nil, qA_cons, qA_io, qS_asg, qS_asgT, qS_par, qS_setx, qS_app, qS_expr, qS_ret, qS_retv, qS_retn, qS_ife, qS_setf, qS_appx, qS_clrt, qS_pass, qS_never, qSs_nil, qSs_cons, R.bind, R.of, W.fz, fzs, backO, callR, newR, cmpT, cmpI2, cmpInt, T.tru, opT, opInt, biT, lenT, listT, tupleT, intT, allT, hidOk, tgIn, wipeE, backE, isiT, tyT, Ty.sub, ixT, rulT, fldT, getN, str_inj, kdct, Nd.keys, kch, inrs, isKw, arr, b, chT]
theorem chgP (g g' : T) (k : ChOk c0 c1 c2 c3 c4 c5 c6 c7 c8) : Cl (d + 5) 15 [.val (rulT (planT g) (chT c0 c1 c2 c3 c4 c5 c6 c7 c8)), .val (.str "plan"), .val (planT g')] = .ok (rulW (planT g') c0 c1 c2 c3 c4 c5 c6 c7 c8) [] := by
  refine call_rt (fd := Sh.fd15) (env := [some (.val (rulT (planT g) (chT c0 c1 c2 c3 c4 c5 c6 c7 c8))), some (.val (.str "plan")), some (.val (planT g')), some (.val (chT c0 c1 c2 c3 c4 c5 c6 c7 c8))]) rfl rfl ?_
  have b := init_ev d g' c0 c1 c2 c3 c4 c5 c6 c7 c8 k
  have h9 : Cl (d + 4) 9 [.val (.str "plan")] = .ok (.val (.bl true)) [] := by kernel_rfl
  have h11 : Cl (d + 4) 11 [.val (planT g')] = .ok (.val .non) [] := by kernel_rfl
  have eqp : eqT (.str "plan") (.str "plan") = some true := (Pl.str (by decide +kernel)).refl
  simp [Sh.fd15, Sh.ir15, qE_int, qE_bl, qE_non, qE_str, qE_cst, qE_rd, qE_rdx, qE_op, qE_neg, qE_cmp, qE_chn, qE_one, qE_and, qE_or, qE_not, qE_ife, qE_tup, qE_lst, qE_ix, qE_sl, qE_bi, qE_isi, qE_isis, qE_call, qE_callk, qE_lenS, qE_srtS, qE_lrng3, qE_rev, qE_alt, qE_fld, qE_fldv, qE_meth, qE_methv, qE_prop, qE_new, qE_newst, qE_newdd, qE_deq, qE_callw, qE_own, qE_ownE, qE_ownB, qE_ownN, qE_ownI, qE_isc, qE_dct, qE_items, qE_kin, qE_kget, qE_klist, qE_popv, qE_lenv, qE_cmpv, qE_lrng, qSe_of, qEs_nil, qEs_cons, qO_no, qO_so, qT_v, qT_one, qT_and, qT_or, qT_not, qTs_nil, qTs_cons, qI_e, qI_rng, qI_keys, qI_keysv, qI_kk, qI_enum, qI_zip, qA_nil, qA_cons, qA_io, qS_asg, qS_asgT, qS_par, qS_setx, qS_app, qS_expr, qS_ret, qS_retv, qS_retn, qS_ife, qS_setf, qS_appx, qS_clrt, qS_pass, qS_never, qSs_nil, qSs_cons, R.bind, R.of, W.fz, fzs, backO, callR, newR, cmpT, cmpI2, cmpInt, T.tru, opT, opInt, biT, lenT, listT, tupleT, intT, allT, hidOk, tgIn, wipeE, backE, isiT, tyT, Ty.sub, ixT, h9, h11, eqp, rulT, fldT, getN, str_inj, dictT, kdct, Nd.keys, kch, inrs, isKw, arr, b, chT]
end
end Zk04
namespace Ev
open PySem
theorem eqT_nil0 : eqT (.lst []) (.lst []) = some true := (Pl.lst (n := 0) fun _ h => by cases h).refl
theorem eqT_nil1 {t : T} {ts : List T} {n : Nat} (h : Pl (.lst (t :: ts)) n) (hn : n ≤ 64 := by omega) : eqT (.lst (t :: ts)) (.lst []) = some false := by
  obtain ⟨x, a, b, c⟩ := h.shaped hn
  obtain ⟨y, a', b', c'⟩ := (Pl.lst (n := 0) (ts := []) fun _ h => by cases h).shaped (by omega)
  have hx : ∃ z zs, x = .list (z :: zs) := by
    have a2 : (pds (t :: ts)).map PyData.list = some x := a
    obtain ⟨xs, e1, e2⟩ := Option.map_eq_some_iff.mp a2
    have e3 : (match t.pd, pds ts with | some d, some ds => some (d :: ds) | _, _ => none) = some xs := e1
    cases p1 : t.pd with
    | none => rw [p1] at e3; cases e3
    | some d =>
      cases p2 : pds ts with
      | none => rw [p1, p2] at e3; cases e3
      | some ds => rw [p1, p2] at e3; cases e3; exact ⟨d, ds, e2.symm⟩
  obtain ⟨z, zs, rfl⟩ := hx
  cases (show some (PyData.list []) = some y from a')
  unfold eqT
  rw [a]
  show (if (SeqAt.shaped (.list (z :: zs)) && SeqAt.shaped (.list [])) = true then some (PyData.eqv (.list (z :: zs)) (.list [])) else none) = _
  rw [c, c', Bool.and_self, if_pos rfl]
  simp [PyData.eqv, PyData.eqvAll]
theorem perm_pick {α : Type} : ∀ (l : List α) (r : Nat) (h : r < l.length), (l[r] :: l.eraseIdx r).Perm l
  | a :: l, 0, h => List.Perm.refl _
  | a :: l, r + 1, h => by
    have ih := perm_pick l r (by simpa using h)
    show ((l[r]'(by simpa using h)) :: a :: l.eraseIdx r).Perm (a :: l)
    exact (List.Perm.swap _ _ _).trans (ih.cons a)
theorem erase_map {α β : Type} (f : α → β) : ∀ (l : List α) (r : Nat), (l.map f).eraseIdx r = (l.eraseIdx r).map f
  | [], r => by simp
  | a :: l, 0 => rfl
  | a :: l, r + 1 => by
    show f a :: (l.map f).eraseIdx r = f a :: (l.eraseIdx r).map f
    rw [erase_map f l r]
end Ev
namespace Zk04
open PySem L2 Ev
/-! ### draws -/
def Pool (w : W) : Prop := ∃ p0 p1 : Int, w = .lst [.val (.int p0), .val (.int p1)] ∧ 0 ≤ p1 ∧ p1 < 2147483648
theorem take_int (d : Nat) {w : W} (hw : Pool w) (m : Int) (e1 : 0 < m) (e2 : m < 1073741824) : ∃ (r : Int) (w' : W), 0 ≤ r ∧ r < m ∧ Pool w' ∧ Cl (d + 1) 21 [w, .val (.int m)] = .ok (.val (.int r)) [some w'] := by
  obtain ⟨p0, p1, rfl, h0, h1⟩ := hw
  by_cases hp : 0 < p0
  · refine ⟨p0 % m, .lst [.val (.int (p0 / m)), .val (.int p1)], Int.emod_nonneg _ (by omega), Int.emod_lt_of_pos _ e1, ⟨_, _, rfl, h0, h1⟩, ?_⟩
    refine call_rt (fd := Sh.fd21) (env := [some (.lst [.val (.int (p0 / m)), .val (.int p1)]), some (.val (.int m)), none]) rfl rfl ?_
    simp [Sh.fd21, Sh.ir21, qE_int, qE_bl, qE_non, qE_str, qE_cst, qE_rd, qE_rdx, qE_op, qE_neg, qE_cmp, qE_chn, qE_one, qE_and, qE_or, qE_not, qE_ife, qE_tup, qE_lst, qE_ix, qE_sl, qE_bi, qE_isi, qE_isis, qE_call, qE_callk, qE_lenS, qE_srtS, qE_lrng3, qE_rev, qE_alt, qE_fld, qE_fldv, qE_meth, qE_methv, qE_prop, qE_new, qE_newst, qE_newdd, qE_deq, qE_callw, qE_own, qE_ownE, qE_ownB, qE_ownN, qE_ownI, qE_isc, qE_dct, qE_items, qE_kin, qE_kget, qE_klist, qE_popv, qE_lenv, qE_cmpv, qE_lrng, qSe_of, qEs_nil, qEs_cons, qO_no, qO_so, qT_v, qT_one, qT_and, qT_or, qT_not, qTs_nil, qTs_cons, qI_e, qI_rng, qI_keys, qI_keysv, qI_kk, qI_enum, qI_zip, qA_nil, qA_cons, qA_io, qS_asg, qS_asgT, qS_par, qS_setx, qS_app, qS_expr, qS_ret, qS_retv, qS_retn, qS_ife, qS_setf, qS_appx, qS_clrt, qS_pass, qS_never, qSs_nil, qSs_cons, R.bind, R.of, W.fz, fzs, backO, callR, newR, cmpT, cmpI2, cmpInt, T.tru, opT, opInt, biT, lenT, listT, tupleT, intT, allT, hidOk, tgIn, wipeE, backE, isiT, tyT, Ty.sub, ixT, atI, ixN, hp, e1, e2]
  · have hp' : p0 ≤ 0 := by omega
    have m1 : mulOk p1 39373 = true := by simp only [mulOk, Bool.or_eq_true, Bool.and_eq_true, decide_eq_true_eq]; omega
    have m2 : mulOk ((p1 * 39373 + 7) % 2147483647) ((p1 * 39373 + 7) % 2147483647) = true := by simp only [mulOk, Bool.or_eq_true, Bool.and_eq_true, decide_eq_true_eq]; omega
    refine ⟨((p1 * 39373 + 7) % 2147483647 * ((p1 * 39373 + 7) % 2147483647)) % 2147483629 / 32 % m, .lst [.val (.int p0), .val (.int ((p1 * 39373 + 7) % 2147483647))], Int.emod_nonneg _ (by omega), Int.emod_lt_of_pos _ e1, ⟨_, _, rfl, by omega, by omega⟩, ?_⟩
    refine call_rt (fd := Sh.fd21) (env := [some (.lst [.val (.int p0), .val (.int ((p1 * 39373 + 7) % 2147483647))]), some (.val (.int m)), none]) rfl rfl ?_
    simp [Sh.fd21, Sh.ir21, qE_int, qE_bl, qE_non, qE_str, qE_cst, qE_rd, qE_rdx, qE_op, qE_neg, qE_cmp, qE_chn, qE_one, qE_and, qE_or, qE_not, qE_ife, qE_tup, qE_lst, qE_ix, qE_sl, qE_bi, qE_isi, qE_isis, qE_call, qE_callk, qE_lenS, qE_srtS, qE_lrng3, qE_rev, qE_alt, qE_fld, qE_fldv, qE_meth, qE_methv, qE_prop, qE_new, qE_newst, qE_newdd, qE_deq, qE_callw, qE_own, qE_ownE, qE_ownB, qE_ownN, qE_ownI, qE_isc, qE_dct, qE_items, qE_kin, qE_kget, qE_klist, qE_popv, qE_lenv, qE_cmpv, qE_lrng, qSe_of, qEs_nil, qEs_cons, qO_no, qO_so, qT_v, qT_one, qT_and, qT_or, qT_not, qTs_nil, qTs_cons, qI_e, qI_rng, qI_keys, qI_keysv, qI_kk, qI_enum, qI_zip, qA_nil, qA_cons, qA_io, qS_asg, qS_asgT, qS_par, qS_setx, qS_app, qS_expr, qS_ret, qS_retv, qS_retn, qS_ife, qS_setf, qS_appx, qS_clrt, qS_pass, qS_never, qSs_nil, qSs_cons, R.bind, R.of, W.fz, fzs, backO, callR, newR, cmpT, cmpI2, cmpInt, T.tru, opT, opInt, biT, lenT, listT, tupleT, intT, allT, hidOk, tgIn, wipeE, backE, isiT, tyT, Ty.sub, ixT, atI, ixN, hp, hp', e1, e2, m1, m2]
theorem take_ev (d : Nat) {w : W} (hw : Pool w) (m : Nat) (hm : 0 < m) (hm' : m < 1000) : ∃ (r : Nat) (w' : W), r < m ∧ Pool w' ∧ Cl (d + 1) 21 [w, .val (.int m)] = .ok (.val (.int r)) [some w'] := by
  obtain ⟨r, w', h1, h2, h3, h4⟩ := take_int d hw m (by omega) (by omega)
  refine ⟨r.toNat, w', by omega, h3, ?_⟩
  rw [Int.toNat_of_nonneg h1]
  exact h4
theorem one_ev (d : Nat) {w : W} (hw : Pool w) (ts : List T) (hl : 0 < ts.length) (hl' : ts.length < 1000) : ∃ t ∈ ts, ∃ w', Pool w' ∧ Cl (d + 2) 22 [w, .val (.lst ts)] = .ok (.val t) [some w'] := by
  obtain ⟨r, w', hr, hp, e⟩ := take_ev d hw ts.length hl hl'
  refine ⟨ts[r], List.getElem_mem hr, w', hp, ?_⟩
  refine call_rt (fd := Sh.fd22) (env := [some w', some (.val (.lst ts))]) rfl rfl ?_
  have e2 : atI ts (r : Int) = some ts[r] := by
    unfold atI ixN
    simp [hr]
  simp [Sh.fd22, Sh.ir22, qE_int, qE_bl, qE_non, qE_str, qE_cst, qE_rd, qE_rdx, qE_op, qE_neg, qE_cmp, qE_chn, qE_one, qE_and, qE_or, qE_not, qE_ife, qE_tup, qE_lst, qE_ix, qE_sl, qE_bi, qE_isi, qE_isis, qE_call, qE_callk, qE_lenS, qE_srtS, qE_lrng3, qE_rev, qE_alt, qE_fld, qE_fldv, qE_meth, qE_methv, qE_prop, qE_new, qE_newst, qE_newdd, qE_deq, qE_callw, qE_own, qE_ownE, qE_ownB, qE_ownN, qE_ownI, qE_isc, qE_dct, qE_items, qE_kin, qE_kget, qE_klist, qE_popv, qE_lenv, qE_cmpv, qE_lrng, qSe_of, qEs_nil, qEs_cons, qO_no, qO_so, qT_v, qT_one, qT_and, qT_or, qT_not, qTs_nil, qTs_cons, qI_e, qI_rng, qI_keys, qI_keysv, qI_kk, qI_enum, qI_zip, qA_nil, qA_cons, qA_io, qS_asg, qS_asgT, qS_par, qS_setx, qS_app, qS_expr, qS_ret, qS_retv, qS_retn, qS_ife, qS_setf, qS_appx, qS_clrt, qS_pass, qS_never, qSs_nil, qSs_cons, R.bind, R.of, W.fz, fzs, backO, callR, newR, cmpT, cmpI2, cmpInt, T.tru, opT, opInt, biT, lenT, listT, tupleT, intT, allT, hidOk, tgIn, wipeE, backE, isiT, tyT, Ty.sub, ixT, e, e2]
theorem turn_loop (d : Nat) (x : Option W) (t5 : ∀ s ∈ sts5, PyData.strOk s = true) : ∀ (n fuel : Nat) (left found : List Str) (w : W), left.length = n → n < fuel → (∀ s ∈ left, s ∈ sts5) → found.length + left.length ≤ 12 → Pool w → ∃ (ps : List Str) (w' : W), ps.Perm left ∧ Pool w' ∧
    whlL (evT (cstG tx.cs) (Cl (d + 1)) (.v (.cmpv .NotEq 2 (.lst .nil)))) (evSs (cstG tx.cs) (Cl (d + 1)) (.cons (.app 3 (.popv 2 (.call 21 (.io 0 (.cons (.lenv 2) .nil)) []))) .nil)) fuel [some w, x, some (.lst (left.map fun s => .val (.str s))), some (.lst (found.map fun s => .val (.str s)))] =
      .ok .nx [some w', x, some (.lst []), some (.lst ((found ++ ps).map fun s => .val (.str s)))]
  | 0, fuel, left, found, w, hn, hf, hs, hl, hp => by
    have e : left = [] := List.eq_nil_of_length_eq_zero hn
    subst e
    refine ⟨[], w, .nil, hp, ?_⟩
    cases fuel with
    | zero => omega
    | succ f => simp [whlL, qE_int, qE_bl, qE_non, qE_str, qE_cst, qE_rd, qE_rdx, qE_op, qE_neg, qE_cmp, qE_chn, qE_one, qE_and, qE_or, qE_not, qE_ife, qE_tup, qE_lst, qE_ix, qE_sl, qE_bi, qE_isi, qE_isis, qE_call, qE_callk, qE_lenS, qE_srtS, qE_lrng3, qE_rev, qE_alt, qE_fld, qE_fldv, qE_meth, qE_methv, qE_prop, qE_new, qE_newst, qE_newdd, qE_deq, qE_callw, qE_own, qE_ownE, qE_ownB, qE_ownN, qE_ownI, qE_isc, qE_dct, qE_items, qE_kin, qE_kget, qE_klist, qE_popv, qE_lenv, qE_cmpv, qE_lrng, qSe_of, qEs_nil, qEs_cons, qO_no, qO_so, qT_v, qT_one, qT_and, qT_or, qT_not, qTs_nil, qTs_cons, qI_e, qI_rng, qI_keys, qI_keysv, qI_kk, qI_enum, qI_zip, qA_nil, qA_cons, qA_io, qS_asg, qS_asgT, qS_par, qS_setx, qS_app, qS_expr, qS_ret, qS_retv, qS_retn, qS_ife, qS_setf, qS_appx, qS_clrt, qS_pass, qS_never, qSs_nil, qSs_cons, R.bind, R.of, W.fz, fzs, backO, callR, newR, cmpT, cmpI2, cmpInt, T.tru, opT, opInt, biT, lenT, listT, tupleT, intT, allT, hidOk, tgIn, wipeE, backE, isiT, tyT, Ty.sub, ixT, eqT_nil0]
  | n + 1, fuel, left, found, w, hn, hf, hs, hl, hp => by
    cases fuel with
    | zero => omega
    | succ f =>
      obtain ⟨r, w1, hr, hp1, e1⟩ := take_ev d hp left.length (by omega) (by omega)
      have hne : eqT (.lst (left.map .str)) (.lst []) = some false := by
        cases left with
        | nil => cases hn
        | cons s l => exact eqT_nil1 (Pl.lst (Pl.strs fun x hx => t5 x (hs x hx)))
      have hlen : (left.eraseIdx r).length = n := by rw [List.length_eraseIdx_of_lt hr]; omega
      obtain ⟨ps, w2, hperm, hp2, e2⟩ := turn_loop d x t5 n f (left.eraseIdx r) (found ++ [left[r]]) w1 hlen (by omega) (fun s hs' => hs s (List.mem_of_mem_eraseIdx hs')) (by rw [List.length_append, List.length_singleton]; omega) hp1
      refine ⟨left[r] :: ps, w2, ?_, hp2, ?_⟩
      · exact (List.Perm.cons _ hperm).trans (perm_pick _ _ hr)
      · have ix : ixN (left.map fun s => W.val (T.str s)).length (r : Int) = some r := by
          unfold ixN
          simp [hr]
        have ge : (left.map fun s => W.val (T.str s))[r]? = some (.val (.str left[r])) := by simp [hr]
        have er : (left.map fun s => W.val (T.str s)).eraseIdx r = (left.eraseIdx r).map fun s => W.val (T.str s) := erase_map _ _ _
        rw [List.map_append] at e2
        have l1 : left.length ≤ 16777216 := by omega
        have l2 : found.length < 16777216 := by omega
        simp only [List.length_map] at ix
        simp [whlL, qE_int, qE_bl, qE_non, qE_str, qE_cst, qE_rd, qE_rdx, qE_op, qE_neg, qE_cmp, qE_chn, qE_one, qE_and, qE_or, qE_not, qE_ife, qE_tup, qE_lst, qE_ix, qE_sl, qE_bi, qE_isi, qE_isis, qE_call, qE_callk, qE_lenS, qE_srtS, qE_lrng3, qE_rev, qE_alt, qE_fld, qE_fldv, qE_meth, qE_methv, qE_prop, qE_new, qE_newst, qE_newdd, qE_deq, qE_callw, qE_own, qE_ownE, qE_ownB, qE_ownN, qE_ownI, qE_isc, qE_dct, qE_items, qE_kin, qE_kget, qE_klist, qE_popv, qE_lenv, qE_cmpv, qE_lrng, qSe_of, qEs_nil, qEs_cons, qO_no, qO_so, qT_v, qT_one, qT_and, qT_or, qT_not, qTs_nil, qTs_cons, qI_e, qI_rng, qI_keys, qI_keysv, qI_kk, qI_enum, qI_zip, qA_nil, qA_cons, qA_io, qS_asg, qS_asgT, qS_par, qS_setx, qS_app, qS_expr, qS_ret, qS_retv, qS_retn, qS_ife, qS_setf, qS_appx, qS_clrt, qS_pass, qS_never, qSs_nil, qSs_cons, R.bind, R.of, W.fz, fzs, backO, callR, newR, cmpT, cmpI2, cmpInt, T.tru, opT, opInt, biT, lenT, listT, tupleT, intT, allT, hidOk, tgIn, wipeE, backE, isiT, tyT, Ty.sub, ixT, fzs_strs, hne, e1, ix, hr, er, l1, l2]
        simpa using e2
theorem turned_ev (d : Nat) {w : W} (hw : Pool w) (ss : List Str) (hs : ∀ s ∈ ss, s ∈ sts5) (hl : ss.length ≤ 5) : ∃ (ps : List Str) (w' : W), ps.Perm ss ∧ Pool w' ∧ Cl (d + 2) 23 [w, .val (.lst (ss.map .str))] = .ok (.lst (ps.map fun s => .val (.str s))) [some w'] := by
  obtain ⟨ps, w', hp, hw', e⟩ := turn_loop d (some (.val (.lst (ss.map .str)))) st5_ok ss.length 12 ss [] w rfl (by omega) hs (by simp only [List.length_nil]; omega) hw
  refine ⟨ps, w', hp, hw', ?_⟩
  refine call_rt (fd := Sh.fd23) (env := [some w', some (.val (.lst (ss.map .str))), some (.lst []), none]) rfl rfl ?_
  have lm : (ss.map T.str).map W.val = ss.map fun s => W.val (.str s) := by rw [List.map_map]; rfl
  simp only [List.map_nil, List.nil_append] at e
  simp [Sh.fd23, Sh.ir23, qE_int, qE_bl, qE_non, qE_str, qE_cst, qE_rd, qE_rdx, qE_op, qE_neg, qE_cmp, qE_chn, qE_one, qE_and, qE_or, qE_not, qE_ife, qE_tup, qE_lst, qE_ix, qE_sl, qE_bi, qE_isi, qE_isis, qE_call, qE_callk, qE_lenS, qE_srtS, qE_lrng3, qE_rev, qE_alt, qE_fld, qE_fldv, qE_meth, qE_methv, qE_prop, qE_new, qE_newst, qE_newdd, qE_deq, qE_callw, qE_own, qE_ownE, qE_ownB, qE_ownN, qE_ownI, qE_isc, qE_dct, qE_items, qE_kin, qE_kget, qE_klist, qE_popv, qE_lenv, qE_cmpv, qE_lrng, qSe_of, qEs_nil, qEs_cons, qO_no, qO_so, qT_v, qT_one, qT_and, qT_or, qT_not, qTs_nil, qTs_cons, qI_e, qI_rng, qI_keys, qI_keysv, qI_kk, qI_enum, qI_zip, qA_nil, qA_cons, qA_io, qS_asg, qS_asgT, qS_par, qS_setx, qS_app, qS_expr, qS_ret, qS_retv, qS_retn, qS_ife, qS_setf, qS_appx, qS_clrt, qS_pass, qS_never, qSs_nil, qSs_cons, R.bind, R.of, W.fz, fzs, backO, callR, newR, cmpT, cmpI2, cmpInt, T.tru, opT, opInt, biT, lenT, listT, tupleT, intT, allT, hidOk, tgIn, wipeE, backE, isiT, tyT, Ty.sub, ixT, qS_whl, lm, -List.map_map, e]
end Zk04
namespace Zk04
open PySem L2 Ev
/-! ### drawn groups -/
theorem some_loop (d : Nat) (o1 o2 o4 : Option W) : ∀ (xs acc : List Str) (w : W), acc.length + xs.length ≤ 100 → Pool w → ∃ (ys : List Str) (w' : W), ys.Sublist xs ∧ Pool w' ∧
    lcL (.var 3) [3] (evTs (cstG tx.cs) (Cl (d + 2)) (.cons (.v (.cmp .Gt (.call 21 (.io 0 (.cons (.int 3) .nil)) []) (.int 0))) .nil)) (evE (cstG tx.cs) (Cl (d + 2)) (.rd 3)) (xs.map .str) (acc.map fun s => .val (.str s)) [some w, o1, o2, none, o4] =
      .ok ((acc ++ ys).map fun s => .val (.str s)) [some w', o1, o2, none, o4]
  | [], acc, w, _, hp => ⟨[], w, .slnil, hp, by simp [lcL]⟩
  | x :: xs, acc, w, hl, hp => by
    obtain ⟨r, w1, hr, hp1, e1⟩ := take_ev (d + 1) hp 3 (by decide) (by decide)
    have e1' : Cl (d + 2) 21 [w, .val (.int 3)] = .ok (.val (.int r)) [some w1] := e1
    rw [List.length_cons] at hl
    have hl2 : acc.length < 16777216 := by omega
    by_cases h0 : 0 < r
    · obtain ⟨ys, w2, hs, hp2, e2⟩ := some_loop d o1 o2 o4 xs (acc ++ [x]) w1 (by rw [List.length_append, List.length_singleton]; omega) hp1
      refine ⟨x :: ys, w2, hs.cons_cons x, hp2, ?_⟩
      rw [List.map_append] at e2
      simp [lcL, tgE, qE_int, qE_bl, qE_non, qE_str, qE_cst, qE_rd, qE_rdx, qE_op, qE_neg, qE_cmp, qE_chn, qE_one, qE_and, qE_or, qE_not, qE_ife, qE_tup, qE_lst, qE_ix, qE_sl, qE_bi, qE_isi, qE_isis, qE_call, qE_callk, qE_lenS, qE_srtS, qE_lrng3, qE_rev, qE_alt, qE_fld, qE_fldv, qE_meth, qE_methv, qE_prop, qE_new, qE_newst, qE_newdd, qE_deq, qE_callw, qE_own, qE_ownE, qE_ownB, qE_ownN, qE_ownI, qE_isc, qE_dct, qE_items, qE_kin, qE_kget, qE_klist, qE_popv, qE_lenv, qE_cmpv, qE_lrng, qSe_of, qEs_nil, qEs_cons, qO_no, qO_so, qT_v, qT_one, qT_and, qT_or, qT_not, qTs_nil, qTs_cons, qI_e, qI_rng, qI_keys, qI_keysv, qI_kk, qI_enum, qI_zip, qA_nil, qA_cons, qA_io, qS_asg, qS_asgT, qS_par, qS_setx, qS_app, qS_expr, qS_ret, qS_retv, qS_retn, qS_ife, qS_setf, qS_appx, qS_clrt, qS_pass, qS_never, qSs_nil, qSs_cons, R.bind, R.of, W.fz, fzs, backO, callR, newR, cmpT, cmpI2, cmpInt, T.tru, opT, opInt, biT, lenT, listT, tupleT, intT, allT, hidOk, tgIn, wipeE, backE, isiT, tyT, Ty.sub, ixT, e1', h0, hl2]
      simpa using e2
    · obtain ⟨ys, w2, hs, hp2, e2⟩ := some_loop d o1 o2 o4 xs acc w1 (by omega) hp1
      refine ⟨ys, w2, hs.cons x, hp2, ?_⟩
      simp [lcL, tgE, qE_int, qE_bl, qE_non, qE_str, qE_cst, qE_rd, qE_rdx, qE_op, qE_neg, qE_cmp, qE_chn, qE_one, qE_and, qE_or, qE_not, qE_ife, qE_tup, qE_lst, qE_ix, qE_sl, qE_bi, qE_isi, qE_isis, qE_call, qE_callk, qE_lenS, qE_srtS, qE_lrng3, qE_rev, qE_alt, qE_fld, qE_fldv, qE_meth, qE_methv, qE_prop, qE_new, qE_newst, qE_newdd, qE_deq, qE_callw, qE_own, qE_ownE, qE_ownB, qE_ownN, qE_ownI, qE_isc, qE_dct, qE_items, qE_kin, qE_kget, qE_klist, qE_popv, qE_lenv, qE_cmpv, qE_lrng, qSe_of, qEs_nil, qEs_cons, qO_no, qO_so, qT_v, qT_one, qT_and, qT_or, qT_not, qTs_nil, qTs_cons, qI_e, qI_rng, qI_keys, qI_keysv, qI_kk, qI_enum, qI_zip, qA_nil, qA_cons, qA_io, qS_asg, qS_asgT, qS_par, qS_setx, qS_app, qS_expr, qS_ret, qS_retv, qS_retn, qS_ife, qS_setf, qS_appx, qS_clrt, qS_pass, qS_never, qSs_nil, qSs_cons, R.bind, R.of, W.fz, fzs, backO, callR, newR, cmpT, cmpI2, cmpInt, T.tru, opT, opInt, biT, lenT, listT, tupleT, intT, allT, hidOk, tgIn, wipeE, backE, isiT, tyT, Ty.sub, ixT, e1', h0]
      simpa using e2
/-- groups under way -/
def gW (fs : List (List Str)) : W := .lst (fs.map fun g => .lst (g.map fun s => .val (.str s)))
theorem gW_fz (fs : List (List Str)) : (gW fs).fz = .lst (fs.map fun g => .lst (g.map .str)) := by
  unfold gW
  show T.lst (fzs _) = _
  rw [fzs_map]
  congr 1
  refine List.map_congr_left fun g _ => ?_
  show T.lst (fzs _) = _
  rw [fzs_strs]
theorem gW_nil {fs : List (List Str)} (hs : ∀ s ∈ fs.flatten, s ∈ sts5) : eqT (gW fs).fz (.lst []) = some (decide (fs = [])) := by
  rw [gW_fz]
  cases fs with
  | nil => simpa using eqT_nil0
  | cons g fs =>
    have : eqT (.lst ((g :: fs).map fun g => T.lst (g.map .str))) (.lst []) = some false := eqT_nil1 (n := 2) (Pl.lst fun t ht => by
      have ht : t ∈ (g :: fs).map (fun g => T.lst (g.map .str)) := ht
      obtain ⟨h, hh, rfl⟩ := List.mem_map.mp ht
      exact Pl.lst (Pl.strs fun x hx => st5_ok x (hs x (List.mem_flatten.mpr ⟨h, hh, hx⟩))))
    simpa using this
theorem appx_ev (C : Calls) (w o1 : Option W) (init : List (List Str)) (g : List Str) (x : Str) (hl : g.length ≤ 100) : evS (cstG tx.cs) C (.appx 2 (.neg (.int 1)) (.rd 3)) [w, o1, some (gW (init ++ [g])), some (.val (.str x)), none] = .ok .nx [w, o1, some (gW (init ++ [g ++ [x]])), some (.val (.str x)), none] := by
  have i1 : ixN (init.map (fun g : List Str => W.lst (g.map fun s => W.val (T.str s))) ++ [W.lst (g.map fun s => W.val (T.str s))]).length (-1) = some init.length := by
    unfold ixN
    simp
    omega
  have g1 : (init.map (fun g : List Str => W.lst (g.map fun s => W.val (T.str s))) ++ [W.lst (g.map fun s => W.val (T.str s))])[init.length]? = some (W.lst (g.map fun s => W.val (T.str s))) := by
    rw [List.getElem?_append_right (by simp)]
    simp
  have s1 : ∀ z : W, (init.map (fun g : List Str => W.lst (g.map fun s => W.val (T.str s))) ++ [W.lst (g.map fun s => W.val (T.str s))]).set init.length z = init.map (fun g : List Str => W.lst (g.map fun s => W.val (T.str s))) ++ [z] := fun z => by
    rw [List.set_append_right _ _ (by simp)]
    simp
  have h2 : g.length < 16777216 := by omega
  unfold gW
  simp only [List.map_append, List.map_cons, List.map_nil]
  simp only [qS_appx, qE_neg, qE_int, R.bind, W.fz, List.getElem?_cons_succ, List.getElem?_cons_zero, i1, g1]
  simp [qE_rd, W.fz, h2, s1]
theorem group_loop (d : Nat) (o1 : Option W) : ∀ (rest : List Str) (fs : List (List Str)) (w : W) (o3 : Option W), (∀ g ∈ fs, g ≠ []) → (∀ s ∈ fs.flatten ++ rest, s ∈ sts5) → fs.flatten.length + rest.length ≤ 5 → fs.length ≤ fs.flatten.length → Pool w → ∃ (gs : List (List Str)) (w' : W) (o3' : Option W), (∀ g ∈ gs, g ≠ []) ∧ gs.flatten = fs.flatten ++ rest ∧ Pool w' ∧
    forL (.var 3) (evSs (cstG tx.cs) (Cl (d + 2)) (Ss.at_ 2 Sh.ir24).body) (rest.map .str) [some w, o1, some (gW fs), o3, none] = .ok .nx [some w', o1, some (gW gs), o3', none]
  | [], fs, w, o3, hne, hs, hl, hf, hp => ⟨fs, w, o3, hne, by simp, hp, by simp [forL]⟩
  | x :: rest, fs, w, o3, hne, hs, hl, hf, hp => by
    have hd : ∀ s ∈ fs.flatten, s ∈ sts5 := fun s h => hs s (List.mem_append_left _ h)
    have q0 := gW_nil hd
    rw [List.length_cons] at hl
    -- a new group
    have new : ∀ w1, Pool w1 → evSs (cstG tx.cs) (Cl (d + 2)) (Ss.at_ 2 Sh.ir24).body [some w, o1, some (gW fs), some (.val (.str x)), none] = .ok .nx [some w1, o1, some (gW (fs ++ [[x]])), some (.val (.str x)), none] →
        ∃ (gs : List (List Str)) (w' : W) (o3' : Option W), (∀ g ∈ gs, g ≠ []) ∧ gs.flatten = fs.flatten ++ (x :: rest) ∧ Pool w' ∧ forL (.var 3) (evSs (cstG tx.cs) (Cl (d + 2)) (Ss.at_ 2 Sh.ir24).body) ((x :: rest).map .str) [some w, o1, some (gW fs), o3, none] = .ok .nx [some w', o1, some (gW gs), o3', none] := fun w1 hp1 e => by
      have ef : (fs ++ [[x]]).flatten = fs.flatten ++ [x] := by simp
      obtain ⟨gs, w2, o, h1, h2, h3, h4⟩ := group_loop d o1 rest (fs ++ [[x]]) w1 (some (.val (.str x))) (fun g hg => by
        rcases List.mem_append.mp hg with h | h
        · exact hne g h
        · rw [List.mem_singleton.mp h]; simp) (by rw [ef, List.append_assoc]; exact hs) (by rw [ef, List.length_append, List.length_singleton]; omega) (by rw [ef, List.length_append, List.length_append, List.length_singleton, List.length_singleton]; omega) hp1
      refine ⟨gs, w2, o, h1, by rw [h2, ef, List.append_assoc]; rfl, h3, ?_⟩
      simp [forL, tgE, e, R.bind]
      exact h4
    have app : ∀ w1 : W, evS (cstG tx.cs) (Cl (d + 2)) (.app 2 (.lst .nil)) [some w1, o1, some (gW fs), some (.val (.str x)), none] = .ok .nx [some w1, o1, some (gW (fs ++ [[]])), some (.val (.str x)), none] := fun w1 => by
      have h2 : fs.length < 16777216 := by omega
      unfold gW
      simp [qE_int, qE_bl, qE_non, qE_str, qE_cst, qE_rd, qE_rdx, qE_op, qE_neg, qE_cmp, qE_chn, qE_one, qE_and, qE_or, qE_not, qE_ife, qE_tup, qE_lst, qE_ix, qE_sl, qE_bi, qE_isi, qE_isis, qE_call, qE_callk, qE_lenS, qE_srtS, qE_lrng3, qE_rev, qE_alt, qE_fld, qE_fldv, qE_meth, qE_methv, qE_prop, qE_new, qE_newst, qE_newdd, qE_deq, qE_callw, qE_own, qE_ownE, qE_ownB, qE_ownN, qE_ownI, qE_isc, qE_dct, qE_items, qE_kin, qE_kget, qE_klist, qE_popv, qE_lenv, qE_cmpv, qE_lrng, qSe_of, qEs_nil, qEs_cons, qO_no, qO_so, qT_v, qT_one, qT_and, qT_or, qT_not, qTs_nil, qTs_cons, qI_e, qI_rng, qI_keys, qI_keysv, qI_kk, qI_enum, qI_zip, qA_nil, qA_cons, qA_io, qS_asg, qS_asgT, qS_par, qS_setx, qS_app, qS_expr, qS_ret, qS_retv, qS_retn, qS_ife, qS_setf, qS_appx, qS_clrt, qS_pass, qS_never, qSs_nil, qSs_cons, R.bind, R.of, W.fz, fzs, backO, callR, newR, cmpT, cmpI2, cmpInt, T.tru, opT, opInt, biT, lenT, listT, tupleT, intT, allT, hidOk, tgIn, wipeE, backE, isiT, tyT, Ty.sub, ixT, h2]
    have apx := fun (w1 : W) (init : List (List Str)) (g : List Str) (hg : g.length ≤ 100) => appx_ev (Cl (d + 2)) (some w1) o1 init g x hg
    by_cases h0 : fs = []
    · subst h0
      refine new w hp ?_
      have a1 := app w
      have a2 := apx w [] [] (by simp)
      simp only [List.nil_append] at a1 a2
      simp [Ss.at_, S.body, Sh.ir24, qSs_cons, qSs_nil, qS_ife, qT_or, qT_v, qE_cmpv, qE_lst, qEs_nil, R.bind, q0, cmpT, R.of, W.fz, fzs, T.tru, a1, a2]
    · obtain ⟨r, w1, hr, hp1, e1⟩ := take_ev (d + 1) hp 2 (by decide) (by decide)
      have e1' : Cl (d + 2) 21 [w, .val (.int 2)] = .ok (.val (.int r)) [some w1] := e1
      have q1 : eqT (gW fs).fz (.lst []) = some false := by rw [q0, decide_eq_false h0]
      have ei : eqT (.int (r : Int)) (.int 0) = some (decide (r = 0)) := by rw [eqT_int]; congr 1; simp
      by_cases hr0 : r = 0
      · refine new w1 hp1 ?_
        have a1 := app w1
        have a2 := apx w1 fs [] (by simp)
        simp only [List.nil_append] at a2
        subst hr0
        have ei : eqT (.int 0) (.int 0) = some true := by rw [eqT_int]; rfl
        have e2 : Cl (d + 2) 21 [w, .val (.int 2)] = .ok (.val (.int 0)) [some w1] := e1
        simp [Ss.at_, S.body, Sh.ir24, qSs_cons, qSs_nil, qS_ife, qT_or, qT_one, qT_v, qE_cmpv, qE_cmp, qE_call, qA_io, qA_cons, qA_nil, qE_int, qE_lst, qEs_nil, R.bind, cmpT, R.of, W.fz, fzs, T.tru, backO, q1, e2, ei, a1, a2]
      · obtain ⟨init, g, rfl⟩ : ∃ init g, fs = init ++ [g] := ⟨fs.dropLast, fs.getLast h0, (List.dropLast_concat_getLast h0).symm⟩
        have ef : (init ++ [g ++ [x]]).flatten = (init ++ [g]).flatten ++ [x] := by simp
        have eg : (init ++ [g]).flatten.length = init.flatten.length + g.length := by simp
        have a2 := apx w1 init g (by omega)
        have ei : eqT (.int (r : Int)) (.int 0) = some false := by rw [eqT_int, decide_eq_false (by omega)]
        have e : evSs (cstG tx.cs) (Cl (d + 2)) (Ss.at_ 2 Sh.ir24).body [some w, o1, some (gW (init ++ [g])), some (.val (.str x)), none] = .ok .nx [some w1, o1, some (gW (init ++ [g ++ [x]])), some (.val (.str x)), none] := by
          simp [Ss.at_, S.body, Sh.ir24, qSs_cons, qSs_nil, qS_ife, qT_or, qT_one, qT_v, qE_cmpv, qE_cmp, qE_call, qA_io, qA_cons, qA_nil, qE_int, qE_lst, qEs_nil, R.bind, cmpT, R.of, W.fz, fzs, T.tru, backO, q1, e1', ei, a2]
        obtain ⟨gs, w2, o, h1, h2, h3, h4⟩ := group_loop d o1 rest (init ++ [g ++ [x]]) w1 (some (.val (.str x))) (fun h hh => by
          rcases List.mem_append.mp hh with z | z
          · exact hne h (List.mem_append_left _ z)
          · rw [List.mem_singleton.mp z]; simp) (by rw [ef, List.append_assoc]; exact hs) (by rw [ef, List.length_append, List.length_singleton]; omega) (by
          rw [ef, List.length_append, List.length_append, List.length_singleton, List.length_singleton]
          rw [List.length_append, List.length_singleton] at hf
          omega) hp1
        refine ⟨gs, w2, o, h1, by rw [h2, ef, List.append_assoc]; rfl, h3, ?_⟩
        simp [forL, tgE, e, R.bind]
        exact h4
theorem groups_ev (d : Nat) {w : W} (hw : Pool w) : ∃ (gs : List (List Str)) (w' : W), GOk gs ∧ Pool w' ∧ Cl (d + 3) 24 [w] = .ok (.lst (gs.map fun g => .val (gT1 g))) [some w'] := by
  obtain ⟨ys, w1, hsub, hp1, e1⟩ := some_loop d none none none ["mark 0", "mark 1"] [] w (by simp) hw
  have hss : (nd3 ++ ys).Sublist sts5 := (List.Sublist.refl nd3).append hsub
  have n5 : sts5.Nodup := by decide +kernel
  have hmem : ∀ s ∈ nd3 ++ ys, s ∈ sts5 := fun s hs => hss.subset hs
  have hlen : (nd3 ++ ys).length ≤ 5 := hss.length_le
  obtain ⟨ps, w2, hperm, hp2, e2⟩ := turned_ev d hp1 (nd3 ++ ys) hmem hlen
  have e2' : Cl (d + 2) 23 [w1, .val (.lst ((nd3 ++ ys).map .str))] = .ok (.lst (ps.map fun s => .val (.str s))) [some w2] := e2
  have hpl : ps.length ≤ 5 := by rw [hperm.length_eq]; exact hlen
  obtain ⟨gs, w3, o3, hne, hfl, hp3, e3⟩ := group_loop d (some (.val (.lst ((nd3 ++ ys).map .str)))) ps [] w2 none (fun g hg => by cases hg) (fun s hs => hmem s (hperm.mem_iff.mp (by simpa using hs))) (by simpa using hpl) (by simp) hp2
  have hfl : gs.flatten = ps := by simpa using hfl
  have ok : GOk gs := by
    refine ⟨hne, ?_, ?_, ?_, ?_⟩ <;> rw [hfl]
    · exact hperm.nodup_iff.mpr (hss.nodup n5)
    · exact fun s hs => hmem s (hperm.mem_iff.mp hs)
    · exact fun s hs => hperm.mem_iff.mpr (List.mem_append_left _ hs)
    · exact hpl
  refine ⟨gs, w3, ok, hp3, ?_⟩
  have hgl := ok.glen
  refine call_rt (fd := Sh.fd24) (env := [some w3, some (.val (.lst ((nd3 ++ ys).map .str))), some (.val (.lst (gs.map fun g => .lst (g.map .str)))), o3, none]) rfl rfl ?_
  simp only [List.map_nil, List.nil_append] at e1
  have v1 := ev_lc (G := cstG tx.cs) (C := Cl (d + 2)) (own := [3]) (tg := .var 3) (it := .e (.lst (.cons (.str "mark 0") (.cons (.str "mark 1") .nil)))) (env := [some w, none, none, none, none]) (env1 := [some w, none, none, none, none]) (ts := (["mark 0", "mark 1"] : List Str).map .str) (by kernel_rfl) rfl e1
  have op := opAdd_strs nd3 ys (by rw [List.length_append] at hlen; omega)
  refine ss_step (s := Ss.at_ 0 Sh.ir24) (env1 := [some w1, some (.lst ((nd3 ++ ys).map fun n => .val (.str n))), none, none, none]) ?_ ?_
  · show (evE (cstG tx.cs) (Cl (d + 2)) (.op .Add (.lst (.cons (.str "ack") (.cons (.str "data 0") (.cons (.str "data 1") .nil)))) (.lc [3] (.var 3) (.e (.lst (.cons (.str "mark 0") (.cons (.str "mark 1") .nil)))) (.cons (.v (.cmp .Gt (.call 21 (.io 0 (.cons (.int 3) .nil)) []) (.int 0))) .nil) (.rd 3))) [some w, none, none, none, none]).bind _ = _
    rw [qE_op]
    show (((evE (cstG tx.cs) (Cl (d + 2)) (.lc [3] (.var 3) (.e (.lst (.cons (.str "mark 0") (.cons (.str "mark 1") .nil)))) (.cons (.v (.cmp .Gt (.call 21 (.io 0 (.cons (.int 3) .nil)) []) (.int 0))) .nil) (.rd 3)) [some w, none, none, none, none]).bind _).bind _) = _
    rw [v1]
    show ((R.of (opT .Add (.lst (nd3.map .str)) (.lst (fzs (ys.map fun s => W.val (.str s))))) [some w1, none, none, none, none]).bind _) = _
    rw [fzs_strs, op]
    rfl
  refine ss_step (s := Ss.at_ 1 Sh.ir24) (env1 := [some w1, some (.lst ((nd3 ++ ys).map fun n => .val (.str n))), some (gW []), none, none]) rfl ?_
  refine ss_step (s := Ss.at_ 2 Sh.ir24) (env1 := [some w3, some (.val (.lst ((nd3 ++ ys).map .str))), some (gW gs), o3, none]) ?_ ?_
  · refine ev_for (it := .e (.call 23 (.io 0 (.cons (.rd 1) .nil)) [])) (env1 := [some w2, some (.val (.lst ((nd3 ++ ys).map .str))), some (gW []), none, none]) (ts := ps.map .str) ?_ e3
    have fr : (W.lst ((nd3 ++ ys).map fun n => W.val (.str n))).fz = .lst ((nd3 ++ ys).map .str) := by
      show T.lst (fzs _) = _
      rw [fzs_strs]
    simp only [qI_e, qE_call, qA_io, qA_cons, qA_nil, qE_rd, R.bind, List.getElem?_cons_zero, List.getElem?_cons_succ, List.set_cons_zero, List.set_cons_succ, fr, W.fz, List.map_nil, List.append_nil, List.cons_append, List.nil_append, e2', backO, fzs_strs]
  · have i4 : evI (cstG tx.cs) (Cl (d + 2)) (.e (.rd 2)) [some w3, some (.val (.lst ((nd3 ++ ys).map .str))), some (gW gs), o3, none] = .ok (gs.map fun g => .lst (g.map .str)) [some w3, some (.val (.lst ((nd3 ++ ys).map .str))), some (.val (.lst (gs.map fun g => .lst (g.map .str)))), o3, none] := by
      simp only [qI_e, qE_rd, R.bind, List.getElem?_cons_zero, List.getElem?_cons_succ, List.set_cons_zero, List.set_cons_succ, gW_fz, W.fz]
    have l4 := lcL_all (e := fun g : List Str => T.lst (g.map .str)) (f := fun g => W.val (gT1 g)) (i := 4) (test := evTs (cstG tx.cs) (Cl (d + 2)) .nil) (elt := evE (cstG tx.cs) (Cl (d + 2)) (.bi .tuple (.cons (.rd 4) .nil))) (env := [some w3, some (.val (.lst ((nd3 ++ ys).map .str))), some (.val (.lst (gs.map fun g => .lst (g.map .str)))), o3, none]) rfl gs (by omega) (fun _ _ => rfl) fun g _ => rfl
    have v4 := ev_lc (own := [4]) (tg := .var 4) i4 rfl l4
    show ((evE (cstG tx.cs) (Cl (d + 2)) (.lc [4] (.var 4) (.e (.rd 2)) .nil (.bi .tuple (.cons (.rd 4) .nil))) _).bind _).bind _ = _
    rw [v4]
    rfl
/-! ### drawn choices -/
def menuL : T := .nd (.dcl kch) (mnus.map fun m => .lst m.2)
def chW (c0 c1 c2 c3 c4 c5 c6 c7 c8 : T) : W := .nd (.dct kch) [.val c0, .val c1, .val c2, .val c3, .val c4, .val c5, .val c6, .val c7, .val c8]
def ChI (env : Ev.Env) : Prop := ∃ w o c0 c1 c2 c3 c4 c5 c6 c7 c8, Pool w ∧ ChOk c0 c1 c2 c3 c4 c5 c6 c7 c8 ∧ env = [some w, o, some (.val menuL), some (chW c0 c1 c2 c3 c4 c5 c6 c7 c8)]
theorem usual_ev (d : Nat) : Cl (d + 1) 26 [] = .ok (chW (.str "quiet") (.str "ahead") (.str "ahead") (.str "flagged") (.int 0) (.str "both") (.str "lock") (.bl true) (.str "source")) [] := by kernel_rfl
theorem usual_ok : ChOk (.str "quiet") (.str "ahead") (.str "ahead") (.str "flagged") (.int 0) (.str "both") (.str "lock") (.bl true) (.str "source") := by
  constructor <;> simp
theorem choices_ev (d : Nat) {w : W} (hw : Pool w) : ∃ c0 c1 c2 c3 c4 c5 c6 c7 c8 w', ChOk c0 c1 c2 c3 c4 c5 c6 c7 c8 ∧ Pool w' ∧ Cl (d + 3) 27 [w] = .ok (chW c0 c1 c2 c3 c4 c5 c6 c7 c8) [some w'] := by
  have hf : ∃ env', evS (cstG tx.cs) (Cl (d + 2)) (Ss.at_ 1 Sh.ir27) [some w, none, some menuW, some (chW (.str "quiet") (.str "ahead") (.str "ahead") (.str "flagged") (.int 0) (.str "both") (.str "lock") (.bl true) (.str "source"))] = .ok .nx env' ∧ ChI env' := by
    refine for_inv (tg := .var 1) (it := .keysv 2) (ts := nm9.map .str) (env1 := [some w, none, some (.val menuL), some (chW (.str "quiet") (.str "ahead") (.str "ahead") (.str "flagged") (.int 0) (.str "both") (.str "lock") (.bl true) (.str "source"))]) (by kernel_rfl) ⟨w, none, _, _, _, _, _, _, _, _, _, hw, usual_ok, rfl⟩ ?_
    rintro t ht env ⟨w0, o, c0, c1, c2, c3, c4, c5, c6, c7, c8, hp, hc, rfl⟩
    refine ⟨[some w0, some (.val t), some (.val menuL), some (chW c0 c1 c2 c3 c4 c5 c6 c7 c8)], by simp [tgE], ?_⟩
    obtain ⟨r, w1, hr, hp1, e1⟩ := take_ev (d + 1) hp 2 (by decide) (by decide)
    have e1' : Cl (d + 2) 21 [w0, .val (.int 2)] = .ok (.val (.int r)) [some w1] := e1
    by_cases hr0 : r = 0
    · subst hr0
      have e2 : Cl (d + 2) 21 [w0, .val (.int 2)] = .ok (.val (.int 0)) [some w1] := e1
      have ei : eqT (.int 0) (.int 0) = some true := by rw [eqT_int]; rfl
      simp only [nm9, List.map_cons, List.map_nil, List.mem_cons, List.not_mem_nil, or_false] at ht
      rcases ht with rfl | rfl | rfl | rfl | rfl | rfl | rfl | rfl | rfl
      · obtain ⟨v, hv, w2, hp2, e3⟩ := one_ev d hp1 ([.str "quiet", .str "any"]) (by decide) (by decide)
        refine ⟨[some w2, some (.val (.str "clear")), some (.val menuL), some (chW v c1 c2 c3 c4 c5 c6 c7 c8)], ?_, w2, _, _, _, _, _, _, _, _, _, _, hp2, ⟨hv, hc.h1, hc.h2, hc.h3, hc.h4, hc.h5, hc.h6, hc.h7, hc.h8⟩, rfl⟩
        simp [Ss.at_, S.body, Sh.ir27, qE_int, qE_bl, qE_non, qE_str, qE_cst, qE_rd, qE_rdx, qE_op, qE_neg, qE_cmp, qE_chn, qE_one, qE_and, qE_or, qE_not, qE_ife, qE_tup, qE_lst, qE_ix, qE_sl, qE_bi, qE_isi, qE_isis, qE_call, qE_callk, qE_lenS, qE_srtS, qE_lrng3, qE_rev, qE_alt, qE_fld, qE_fldv, qE_meth, qE_methv, qE_prop, qE_new, qE_newst, qE_newdd, qE_deq, qE_callw, qE_own, qE_ownE, qE_ownB, qE_ownN, qE_ownI, qE_isc, qE_dct, qE_items, qE_kin, qE_kget, qE_klist, qE_popv, qE_lenv, qE_cmpv, qE_lrng, qSe_of, qEs_nil, qEs_cons, qO_no, qO_so, qT_v, qT_one, qT_and, qT_or, qT_not, qTs_nil, qTs_cons, qI_e, qI_rng, qI_keys, qI_keysv, qI_kk, qI_enum, qI_zip, qA_nil, qA_cons, qA_io, qS_asg, qS_asgT, qS_par, qS_setx, qS_app, qS_expr, qS_ret, qS_retv, qS_retn, qS_ife, qS_setf, qS_appx, qS_clrt, qS_pass, qS_never, qSs_nil, qSs_cons, R.bind, R.of, W.fz, fzs, backO, callR, newR, cmpT, cmpI2, cmpInt, T.tru, opT, opInt, biT, lenT, listT, tupleT, intT, allT, hidOk, tgIn, wipeE, backE, isiT, tyT, Ty.sub, ixT, e2, ei, e3, menuL, mnus, chW, Nd.keys, kch, inrs, keyT, getN, putN, putV, str_inj]
      · obtain ⟨v, hv, w2, hp2, e3⟩ := one_ev d hp1 ([.str "first", .str "ahead", .str "late"]) (by decide) (by decide)
        refine ⟨[some w2, some (.val (.str "flag")), some (.val menuL), some (chW c0 v c2 c3 c4 c5 c6 c7 c8)], ?_, w2, _, _, _, _, _, _, _, _, _, _, hp2, ⟨hc.h0, hv, hc.h2, hc.h3, hc.h4, hc.h5, hc.h6, hc.h7, hc.h8⟩, rfl⟩
        simp [Ss.at_, S.body, Sh.ir27, qE_int, qE_bl, qE_non, qE_str, qE_cst, qE_rd, qE_rdx, qE_op, qE_neg, qE_cmp, qE_chn, qE_one, qE_and, qE_or, qE_not, qE_ife, qE_tup, qE_lst, qE_ix, qE_sl, qE_bi, qE_isi, qE_isis, qE_call, qE_callk, qE_lenS, qE_srtS, qE_lrng3, qE_rev, qE_alt, qE_fld, qE_fldv, qE_meth, qE_methv, qE_prop, qE_new, qE_newst, qE_newdd, qE_deq, qE_callw, qE_own, qE_ownE, qE_ownB, qE_ownN, qE_ownI, qE_isc, qE_dct, qE_items, qE_kin, qE_kget, qE_klist, qE_popv, qE_lenv, qE_cmpv, qE_lrng, qSe_of, qEs_nil, qEs_cons, qO_no, qO_so, qT_v, qT_one, qT_and, qT_or, qT_not, qTs_nil, qTs_cons, qI_e, qI_rng, qI_keys, qI_keysv, qI_kk, qI_enum, qI_zip, qA_nil, qA_cons, qA_io, qS_asg, qS_asgT, qS_par, qS_setx, qS_app, qS_expr, qS_ret, qS_retv, qS_retn, qS_ife, qS_setf, qS_appx, qS_clrt, qS_pass, qS_never, qSs_nil, qSs_cons, R.bind, R.of, W.fz, fzs, backO, callR, newR, cmpT, cmpI2, cmpInt, T.tru, opT, opInt, biT, lenT, listT, tupleT, intT, allT, hidOk, tgIn, wipeE, backE, isiT, tyT, Ty.sub, ixT, e2, ei, e3, menuL, mnus, chW, Nd.keys, kch, inrs, keyT, getN, putN, putV, str_inj]
      · obtain ⟨v, hv, w2, hp2, e3⟩ := one_ev d hp1 ([.str "early", .str "ahead", .str "behind"]) (by decide) (by decide)
        refine ⟨[some w2, some (.val (.str "unflag")), some (.val menuL), some (chW c0 c1 v c3 c4 c5 c6 c7 c8)], ?_, w2, _, _, _, _, _, _, _, _, _, _, hp2, ⟨hc.h0, hc.h1, hv, hc.h3, hc.h4, hc.h5, hc.h6, hc.h7, hc.h8⟩, rfl⟩
        simp [Ss.at_, S.body, Sh.ir27, qE_int, qE_bl, qE_non, qE_str, qE_cst, qE_rd, qE_rdx, qE_op, qE_neg, qE_cmp, qE_chn, qE_one, qE_and, qE_or, qE_not, qE_ife, qE_tup, qE_lst, qE_ix, qE_sl, qE_bi, qE_isi, qE_isis, qE_call, qE_callk, qE_lenS, qE_srtS, qE_lrng3, qE_rev, qE_alt, qE_fld, qE_fldv, qE_meth, qE_methv, qE_prop, qE_new, qE_newst, qE_newdd, qE_deq, qE_callw, qE_own, qE_ownE, qE_ownB, qE_ownN, qE_ownI, qE_isc, qE_dct, qE_items, qE_kin, qE_kget, qE_klist, qE_popv, qE_lenv, qE_cmpv, qE_lrng, qSe_of, qEs_nil, qEs_cons, qO_no, qO_so, qT_v, qT_one, qT_and, qT_or, qT_not, qTs_nil, qTs_cons, qI_e, qI_rng, qI_keys, qI_keysv, qI_kk, qI_enum, qI_zip, qA_nil, qA_cons, qA_io, qS_asg, qS_asgT, qS_par, qS_setx, qS_app, qS_expr, qS_ret, qS_retv, qS_retn, qS_ife, qS_setf, qS_appx, qS_clrt, qS_pass, qS_never, qSs_nil, qSs_cons, R.bind, R.of, W.fz, fzs, backO, callR, newR, cmpT, cmpI2, cmpInt, T.tru, opT, opInt, biT, lenT, listT, tupleT, intT, allT, hidOk, tgIn, wipeE, backE, isiT, tyT, Ty.sub, ixT, e2, ei, e3, menuL, mnus, chW, Nd.keys, kch, inrs, keyT, getN, putN, putV, str_inj]
      · obtain ⟨v, hv, w2, hp2, e3⟩ := one_ev d hp1 ([.str "any", .str "flagged", .str "both"]) (by decide) (by decide)
        refine ⟨[some w2, some (.val (.str "start")), some (.val menuL), some (chW c0 c1 c2 v c4 c5 c6 c7 c8)], ?_, w2, _, _, _, _, _, _, _, _, _, _, hp2, ⟨hc.h0, hc.h1, hc.h2, hv, hc.h4, hc.h5, hc.h6, hc.h7, hc.h8⟩, rfl⟩
        simp [Ss.at_, S.body, Sh.ir27, qE_int, qE_bl, qE_non, qE_str, qE_cst, qE_rd, qE_rdx, qE_op, qE_neg, qE_cmp, qE_chn, qE_one, qE_and, qE_or, qE_not, qE_ife, qE_tup, qE_lst, qE_ix, qE_sl, qE_bi, qE_isi, qE_isis, qE_call, qE_callk, qE_lenS, qE_srtS, qE_lrng3, qE_rev, qE_alt, qE_fld, qE_fldv, qE_meth, qE_methv, qE_prop, qE_new, qE_newst, qE_newdd, qE_deq, qE_callw, qE_own, qE_ownE, qE_ownB, qE_ownN, qE_ownI, qE_isc, qE_dct, qE_items, qE_kin, qE_kget, qE_klist, qE_popv, qE_lenv, qE_cmpv, qE_lrng, qSe_of, qEs_nil, qEs_cons, qO_no, qO_so, qT_v, qT_one, qT_and, qT_or, qT_not, qTs_nil, qTs_cons, qI_e, qI_rng, qI_keys, qI_keysv, qI_kk, qI_enum, qI_zip, qA_nil, qA_cons, qA_io, qS_asg, qS_asgT, qS_par, qS_setx, qS_app, qS_expr, qS_ret, qS_retv, qS_retn, qS_ife, qS_setf, qS_appx, qS_clrt, qS_pass, qS_never, qSs_nil, qSs_cons, R.bind, R.of, W.fz, fzs, backO, callR, newR, cmpT, cmpI2, cmpInt, T.tru, opT, opInt, biT, lenT, listT, tupleT, intT, allT, hidOk, tgIn, wipeE, backE, isiT, tyT, Ty.sub, ixT, e2, ei, e3, menuL, mnus, chW, Nd.keys, kch, inrs, keyT, getN, putN, putV, str_inj]
      · obtain ⟨v, hv, w2, hp2, e3⟩ := one_ev d hp1 ([.int 0, .int 1]) (by decide) (by decide)
        refine ⟨[some w2, some (.val (.str "choice")), some (.val menuL), some (chW c0 c1 c2 c3 v c5 c6 c7 c8)], ?_, w2, _, _, _, _, _, _, _, _, _, _, hp2, ⟨hc.h0, hc.h1, hc.h2, hc.h3, hv, hc.h5, hc.h6, hc.h7, hc.h8⟩, rfl⟩
        simp [Ss.at_, S.body, Sh.ir27, qE_int, qE_bl, qE_non, qE_str, qE_cst, qE_rd, qE_rdx, qE_op, qE_neg, qE_cmp, qE_chn, qE_one, qE_and, qE_or, qE_not, qE_ife, qE_tup, qE_lst, qE_ix, qE_sl, qE_bi, qE_isi, qE_isis, qE_call, qE_callk, qE_lenS, qE_srtS, qE_lrng3, qE_rev, qE_alt, qE_fld, qE_fldv, qE_meth, qE_methv, qE_prop, qE_new, qE_newst, qE_newdd, qE_deq, qE_callw, qE_own, qE_ownE, qE_ownB, qE_ownN, qE_ownI, qE_isc, qE_dct, qE_items, qE_kin, qE_kget, qE_klist, qE_popv, qE_lenv, qE_cmpv, qE_lrng, qSe_of, qEs_nil, qEs_cons, qO_no, qO_so, qT_v, qT_one, qT_and, qT_or, qT_not, qTs_nil, qTs_cons, qI_e, qI_rng, qI_keys, qI_keysv, qI_kk, qI_enum, qI_zip, qA_nil, qA_cons, qA_io, qS_asg, qS_asgT, qS_par, qS_setx, qS_app, qS_expr, qS_ret, qS_retv, qS_retn, qS_ife, qS_setf, qS_appx, qS_clrt, qS_pass, qS_never, qSs_nil, qSs_cons, R.bind, R.of, W.fz, fzs, backO, callR, newR, cmpT, cmpI2, cmpInt, T.tru, opT, opInt, biT, lenT, listT, tupleT, intT, allT, hidOk, tgIn, wipeE, backE, isiT, tyT, Ty.sub, ixT, e2, ei, e3, menuL, mnus, chW, Nd.keys, kch, inrs, keyT, getN, putN, putV, str_inj]
      · obtain ⟨v, hv, w2, hp2, e3⟩ := one_ev d hp1 ([.str "both", .str "source"]) (by decide) (by decide)
        refine ⟨[some w2, some (.val (.str "copied")), some (.val menuL), some (chW c0 c1 c2 c3 c4 v c6 c7 c8)], ?_, w2, _, _, _, _, _, _, _, _, _, _, hp2, ⟨hc.h0, hc.h1, hc.h2, hc.h3, hc.h4, hv, hc.h6, hc.h7, hc.h8⟩, rfl⟩
        simp [Ss.at_, S.body, Sh.ir27, qE_int, qE_bl, qE_non, qE_str, qE_cst, qE_rd, qE_rdx, qE_op, qE_neg, qE_cmp, qE_chn, qE_one, qE_and, qE_or, qE_not, qE_ife, qE_tup, qE_lst, qE_ix, qE_sl, qE_bi, qE_isi, qE_isis, qE_call, qE_callk, qE_lenS, qE_srtS, qE_lrng3, qE_rev, qE_alt, qE_fld, qE_fldv, qE_meth, qE_methv, qE_prop, qE_new, qE_newst, qE_newdd, qE_deq, qE_callw, qE_own, qE_ownE, qE_ownB, qE_ownN, qE_ownI, qE_isc, qE_dct, qE_items, qE_kin, qE_kget, qE_klist, qE_popv, qE_lenv, qE_cmpv, qE_lrng, qSe_of, qEs_nil, qEs_cons, qO_no, qO_so, qT_v, qT_one, qT_and, qT_or, qT_not, qTs_nil, qTs_cons, qI_e, qI_rng, qI_keys, qI_keysv, qI_kk, qI_enum, qI_zip, qA_nil, qA_cons, qA_io, qS_asg, qS_asgT, qS_par, qS_setx, qS_app, qS_expr, qS_ret, qS_retv, qS_retn, qS_ife, qS_setf, qS_appx, qS_clrt, qS_pass, qS_never, qSs_nil, qSs_cons, R.bind, R.of, W.fz, fzs, backO, callR, newR, cmpT, cmpI2, cmpInt, T.tru, opT, opInt, biT, lenT, listT, tupleT, intT, allT, hidOk, tgIn, wipeE, backE, isiT, tyT, Ty.sub, ixT, e2, ei, e3, menuL, mnus, chW, Nd.keys, kch, inrs, keyT, getN, putN, putV, str_inj]
      · obtain ⟨v, hv, w2, hp2, e3⟩ := one_ev d hp1 ([.str "lock", .str "again", .str "none"]) (by decide) (by decide)
        refine ⟨[some w2, some (.val (.str "lock")), some (.val menuL), some (chW c0 c1 c2 c3 c4 c5 v c7 c8)], ?_, w2, _, _, _, _, _, _, _, _, _, _, hp2, ⟨hc.h0, hc.h1, hc.h2, hc.h3, hc.h4, hc.h5, hv, hc.h7, hc.h8⟩, rfl⟩
        simp [Ss.at_, S.body, Sh.ir27, qE_int, qE_bl, qE_non, qE_str, qE_cst, qE_rd, qE_rdx, qE_op, qE_neg, qE_cmp, qE_chn, qE_one, qE_and, qE_or, qE_not, qE_ife, qE_tup, qE_lst, qE_ix, qE_sl, qE_bi, qE_isi, qE_isis, qE_call, qE_callk, qE_lenS, qE_srtS, qE_lrng3, qE_rev, qE_alt, qE_fld, qE_fldv, qE_meth, qE_methv, qE_prop, qE_new, qE_newst, qE_newdd, qE_deq, qE_callw, qE_own, qE_ownE, qE_ownB, qE_ownN, qE_ownI, qE_isc, qE_dct, qE_items, qE_kin, qE_kget, qE_klist, qE_popv, qE_lenv, qE_cmpv, qE_lrng, qSe_of, qEs_nil, qEs_cons, qO_no, qO_so, qT_v, qT_one, qT_and, qT_or, qT_not, qTs_nil, qTs_cons, qI_e, qI_rng, qI_keys, qI_keysv, qI_kk, qI_enum, qI_zip, qA_nil, qA_cons, qA_io, qS_asg, qS_asgT, qS_par, qS_setx, qS_app, qS_expr, qS_ret, qS_retv, qS_retn, qS_ife, qS_setf, qS_appx, qS_clrt, qS_pass, qS_never, qSs_nil, qSs_cons, R.bind, R.of, W.fz, fzs, backO, callR, newR, cmpT, cmpI2, cmpInt, T.tru, opT, opInt, biT, lenT, listT, tupleT, intT, allT, hidOk, tgIn, wipeE, backE, isiT, tyT, Ty.sub, ixT, e2, ei, e3, menuL, mnus, chW, Nd.keys, kch, inrs, keyT, getN, putN, putV, str_inj]
      · obtain ⟨v, hv, w2, hp2, e3⟩ := one_ev d hp1 ([.bl true, .bl false]) (by decide) (by decide)
        refine ⟨[some w2, some (.val (.str "held")), some (.val menuL), some (chW c0 c1 c2 c3 c4 c5 c6 v c8)], ?_, w2, _, _, _, _, _, _, _, _, _, _, hp2, ⟨hc.h0, hc.h1, hc.h2, hc.h3, hc.h4, hc.h5, hc.h6, hv, hc.h8⟩, rfl⟩
        simp [Ss.at_, S.body, Sh.ir27, qE_int, qE_bl, qE_non, qE_str, qE_cst, qE_rd, qE_rdx, qE_op, qE_neg, qE_cmp, qE_chn, qE_one, qE_and, qE_or, qE_not, qE_ife, qE_tup, qE_lst, qE_ix, qE_sl, qE_bi, qE_isi, qE_isis, qE_call, qE_callk, qE_lenS, qE_srtS, qE_lrng3, qE_rev, qE_alt, qE_fld, qE_fldv, qE_meth, qE_methv, qE_prop, qE_new, qE_newst, qE_newdd, qE_deq, qE_callw, qE_own, qE_ownE, qE_ownB, qE_ownN, qE_ownI, qE_isc, qE_dct, qE_items, qE_kin, qE_kget, qE_klist, qE_popv, qE_lenv, qE_cmpv, qE_lrng, qSe_of, qEs_nil, qEs_cons, qO_no, qO_so, qT_v, qT_one, qT_and, qT_or, qT_not, qTs_nil, qTs_cons, qI_e, qI_rng, qI_keys, qI_keysv, qI_kk, qI_enum, qI_zip, qA_nil, qA_cons, qA_io, qS_asg, qS_asgT, qS_par, qS_setx, qS_app, qS_expr, qS_ret, qS_retv, qS_retn, qS_ife, qS_setf, qS_appx, qS_clrt, qS_pass, qS_never, qSs_nil, qSs_cons, R.bind, R.of, W.fz, fzs, backO, callR, newR, cmpT, cmpI2, cmpInt, T.tru, opT, opInt, biT, lenT, listT, tupleT, intT, allT, hidOk, tgIn, wipeE, backE, isiT, tyT, Ty.sub, ixT, e2, ei, e3, menuL, mnus, chW, Nd.keys, kch, inrs, keyT, getN, putN, putV, str_inj]
      · obtain ⟨v, hv, w2, hp2, e3⟩ := one_ev d hp1 ([.str "source", .str "any"]) (by decide) (by decide)
        refine ⟨[some w2, some (.val (.str "read")), some (.val menuL), some (chW c0 c1 c2 c3 c4 c5 c6 c7 v)], ?_, w2, _, _, _, _, _, _, _, _, _, _, hp2, ⟨hc.h0, hc.h1, hc.h2, hc.h3, hc.h4, hc.h5, hc.h6, hc.h7, hv⟩, rfl⟩
        simp [Ss.at_, S.body, Sh.ir27, qE_int, qE_bl, qE_non, qE_str, qE_cst, qE_rd, qE_rdx, qE_op, qE_neg, qE_cmp, qE_chn, qE_one, qE_and, qE_or, qE_not, qE_ife, qE_tup, qE_lst, qE_ix, qE_sl, qE_bi, qE_isi, qE_isis, qE_call, qE_callk, qE_lenS, qE_srtS, qE_lrng3, qE_rev, qE_alt, qE_fld, qE_fldv, qE_meth, qE_methv, qE_prop, qE_new, qE_newst, qE_newdd, qE_deq, qE_callw, qE_own, qE_ownE, qE_ownB, qE_ownN, qE_ownI, qE_isc, qE_dct, qE_items, qE_kin, qE_kget, qE_klist, qE_popv, qE_lenv, qE_cmpv, qE_lrng, qSe_of, qEs_nil, qEs_cons, qO_no, qO_so, qT_v, qT_one, qT_and, qT_or, qT_not, qTs_nil, qTs_cons, qI_e, qI_rng, qI_keys, qI_keysv, qI_kk, qI_enum, qI_zip, qA_nil, qA_cons, qA_io, qS_asg, qS_asgT, qS_par, qS_setx, qS_app, qS_expr, qS_ret, qS_retv, qS_retn, qS_ife, qS_setf, qS_appx, qS_clrt, qS_pass, qS_never, qSs_nil, qSs_cons, R.bind, R.of, W.fz, fzs, backO, callR, newR, cmpT, cmpI2, cmpInt, T.tru, opT, opInt, biT, lenT, listT, tupleT, intT, allT, hidOk, tgIn, wipeE, backE, isiT, tyT, Ty.sub, ixT, e2, ei, e3, menuL, mnus, chW, Nd.keys, kch, inrs, keyT, getN, putN, putV, str_inj]
    · have ei : eqT (.int (r : Int)) (.int 0) = some false := by rw [eqT_int, decide_eq_false (by omega)]
      refine ⟨[some w1, some (.val t), some (.val menuL), some (chW c0 c1 c2 c3 c4 c5 c6 c7 c8)], ?_, w1, _, _, _, _, _, _, _, _, _, _, hp1, hc, rfl⟩
      simp [Ss.at_, S.body, Sh.ir27, qE_int, qE_bl, qE_non, qE_str, qE_cst, qE_rd, qE_rdx, qE_op, qE_neg, qE_cmp, qE_chn, qE_one, qE_and, qE_or, qE_not, qE_ife, qE_tup, qE_lst, qE_ix, qE_sl, qE_bi, qE_isi, qE_isis, qE_call, qE_callk, qE_lenS, qE_srtS, qE_lrng3, qE_rev, qE_alt, qE_fld, qE_fldv, qE_meth, qE_methv, qE_prop, qE_new, qE_newst, qE_newdd, qE_deq, qE_callw, qE_own, qE_ownE, qE_ownB, qE_ownN, qE_ownI, qE_isc, qE_dct, qE_items, qE_kin, qE_kget, qE_klist, qE_popv, qE_lenv, qE_cmpv, qE_lrng, qSe_of, qEs_nil, qEs_cons, qO_no, qO_so, qT_v, qT_one, qT_and, qT_or, qT_not, qTs_nil, qTs_cons, qI_e, qI_rng, qI_keys, qI_keysv, qI_kk, qI_enum, qI_zip, qA_nil, qA_cons, qA_io, qS_asg, qS_asgT, qS_par, qS_setx, qS_app, qS_expr, qS_ret, qS_retv, qS_retn, qS_ife, qS_setf, qS_appx, qS_clrt, qS_pass, qS_never, qSs_nil, qSs_cons, R.bind, R.of, W.fz, fzs, backO, callR, newR, cmpT, cmpI2, cmpInt, T.tru, opT, opInt, biT, lenT, listT, tupleT, intT, allT, hidOk, tgIn, wipeE, backE, isiT, tyT, Ty.sub, ixT, e1', ei]
  obtain ⟨env', e, w', o, c0, c1, c2, c3, c4, c5, c6, c7, c8, hp, hc, rfl⟩ := hf
  refine ⟨c0, c1, c2, c3, c4, c5, c6, c7, c8, w', hc, hp, ?_⟩
  refine call_rt (fd := Sh.fd27) (env := [some w', o, some (.val menuL), none]) rfl rfl ?_
  refine ss_step (s := Ss.at_ 0 Sh.ir27) (env1 := [some w, none, some menuW, some (chW (.str "quiet") (.str "ahead") (.str "ahead") (.str "flagged") (.int 0) (.str "both") (.str "lock") (.bl true) (.str "source"))]) (by kernel_rfl) ?_
  exact ss_step (s := Ss.at_ 1 Sh.ir27) e rfl
end Zk04
namespace Ev
open PySem
variable {G : Nat → Option T} {C : Calls}
theorem t_ne {A B : E} {env e1 e2 : Env} {wa wb : W} {b : Bool} (h1 : evE G C A env = .ok wa e1) (h2 : evE G C B e1 = .ok wb e2) (h : eqT wa.fz wb.fz = some b) : evT G C (.v (.cmp .NotEq A B)) env = .ok (!b) e2 := by
  rw [qT_v, qE_cmp, h1]
  show (((evE G C B e1).bind _).bind _) = _
  rw [h2]
  show ((R.of (((eqT wa.fz wb.fz).map (!·)).map fun b => W.val (.bl b)) e2).bind _) = _
  rw [h]
  rfl
theorem if_no {c : Tt} {a : Ss} {env e1 : Env} (h : evT G C c env = .ok false e1) : evS G C (.ife c a .nil) env = .ok .nx e1 := by
  rw [qS_ife, h]
  rfl
theorem t_or {a b : Tt} {env e1 e2 : Env} {k : Bool} (h1 : evT G C a env = .ok false e1) (h2 : evT G C b e1 = .ok k e2) : evT G C (.or a (.one b)) env = .ok k e2 := by
  rw [qT_or, h1]
  exact h2
theorem call1 {a : E} {f : Nat} {env e1 : Env} {w r : W} (h : evE G C a env = .ok w e1) (hc : C f [.val w.fz] = .ok r []) : evE G C (.call f (.cons a .nil) []) env = .ok r e1 := by
  simp [qE_call, qA_cons, qA_nil, h, R.bind, hc, backO]
theorem call2 {a b : E} {f : Nat} {env e1 e2 : Env} {w v r : W} (h : evE G C a env = .ok w e1) (h2 : evE G C b e1 = .ok v e2) (hc : C f [.val w.fz, .val v.fz] = .ok r []) : evE G C (.call f (.cons a (.cons b .nil)) []) env = .ok r e2 := by
  simp [qE_call, qA_cons, qA_nil, h, h2, R.bind, hc, backO]
theorem rd_any {i : Nat} {env : Env} {w : W} (h : env[i]? = some (some w)) : evE G C (.rd i) env = .ok (.val w.fz) (env.set i (some (.val w.fz))) := by
  rw [qE_rd, h]
end Ev
namespace Zk04
open PySem L2 Ev
theorem pool_ev (d : Nat) (ns : List Int) (k : Int) (hk : 0 ≤ k) (hk' : k ≤ 1000) : ∃ w, Pool w ∧ Cl (d + 1) 20 [.val (.scr ns), .val (.int k)] = .ok w [] := by
  have main : ∀ c : Int, (if k < (ns.length : Int) then atI ns k else some 0) = some c → ∃ w, Pool w ∧ Cl (d + 1) 20 [.val (.scr ns), .val (.int k)] = .ok w [] := by
    intro c hc
    have m1 : mulOk 7919 k = true := by simp only [mulOk, Bool.or_eq_true, Bool.and_eq_true, decide_eq_true_eq]; omega
    have m2 : mulOk (7919 * k) k = true := by simp only [mulOk, Bool.or_eq_true, Bool.and_eq_true, decide_eq_true_eq]; omega
    have m3 : mulOk 31 k = true := by simp only [mulOk, Bool.or_eq_true, Bool.and_eq_true, decide_eq_true_eq]; omega
    have m4 : ∀ x : Int, mulOk x 48271 = true := fun x => by simp only [mulOk, Bool.or_eq_true, Bool.and_eq_true, decide_eq_true_eq]; omega
    have m5 : ∀ x : Int, mulOk x 1 = true := fun x => by simp only [mulOk, Bool.or_eq_true, Bool.and_eq_true, decide_eq_true_eq]; omega
    have m6 : ∀ x : Int, mulOk x 0 = true := fun x => by simp only [mulOk, Bool.or_eq_true, Bool.and_eq_true, decide_eq_true_eq]; omega
    generalize hb : (if -1 - c > c then -1 - c else c) = big
    have fin : ∀ p0 : Int, p0 = (if 1000000000000000000 ≤ big then big else 0) → evSs (cstG tx.cs) (Cl d) Sh.ir20 [some (.val (.scr ns)), some (.val (.int k)), none, none, none] = .ok (.rt (.lst [.val (.int p0), .val (.int ((big % 2147483629 + 7919 * k * k + 31 * k + 17) * 48271 % 2147483647))])) [some (.val (.scr ns)), some (.val (.int k)), some (.val (.int c)), some (.val (.int big)), some (.val (.int ((big % 2147483629 + 7919 * k * k + 31 * k + 17) * 48271 % 2147483647)))] → ∃ w, Pool w ∧ Cl (d + 1) 20 [.val (.scr ns), .val (.int k)] = .ok w [] := fun p0 _ e =>
      ⟨_, ⟨_, _, rfl, by omega, by omega⟩, call_rt (fd := Sh.fd20) rfl rfl e⟩
    by_cases hl : k < (ns.length : Int)
    · rw [if_pos hl] at hc
      by_cases big1 : 1000000000000000000 ≤ big
      · refine fin big (by rw [if_pos big1]) ?_
        simp [Sh.ir20, qE_int, qE_bl, qE_non, qE_str, qE_cst, qE_rd, qE_rdx, qE_op, qE_neg, qE_cmp, qE_chn, qE_one, qE_and, qE_or, qE_not, qE_ife, qE_tup, qE_lst, qE_ix, qE_sl, qE_bi, qE_isi, qE_isis, qE_call, qE_callk, qE_lenS, qE_srtS, qE_lrng3, qE_rev, qE_alt, qE_fld, qE_fldv, qE_meth, qE_methv, qE_prop, qE_new, qE_newst, qE_newdd, qE_deq, qE_callw, qE_own, qE_ownE, qE_ownB, qE_ownN, qE_ownI, qE_isc, qE_dct, qE_items, qE_kin, qE_kget, qE_klist, qE_popv, qE_lenv, qE_cmpv, qE_lrng, qSe_of, qEs_nil, qEs_cons, qO_no, qO_so, qT_v, qT_one, qT_and, qT_or, qT_not, qTs_nil, qTs_cons, qI_e, qI_rng, qI_keys, qI_keysv, qI_kk, qI_enum, qI_zip, qA_nil, qA_cons, qA_io, qS_asg, qS_asgT, qS_par, qS_setx, qS_app, qS_expr, qS_ret, qS_retv, qS_retn, qS_ife, qS_setf, qS_appx, qS_clrt, qS_pass, qS_never, qSs_nil, qSs_cons, R.bind, R.of, W.fz, fzs, backO, callR, newR, cmpT, cmpI2, cmpInt, T.tru, opT, opInt, biT, lenT, listT, tupleT, intT, allT, hidOk, tgIn, wipeE, backE, isiT, tyT, Ty.sub, ixT, maxT, hl, hc, m1, m2, m3, m4, m5, hb, big1]
      · refine fin 0 (by rw [if_neg big1]) ?_
        simp [Sh.ir20, qE_int, qE_bl, qE_non, qE_str, qE_cst, qE_rd, qE_rdx, qE_op, qE_neg, qE_cmp, qE_chn, qE_one, qE_and, qE_or, qE_not, qE_ife, qE_tup, qE_lst, qE_ix, qE_sl, qE_bi, qE_isi, qE_isis, qE_call, qE_callk, qE_lenS, qE_srtS, qE_lrng3, qE_rev, qE_alt, qE_fld, qE_fldv, qE_meth, qE_methv, qE_prop, qE_new, qE_newst, qE_newdd, qE_deq, qE_callw, qE_own, qE_ownE, qE_ownB, qE_ownN, qE_ownI, qE_isc, qE_dct, qE_items, qE_kin, qE_kget, qE_klist, qE_popv, qE_lenv, qE_cmpv, qE_lrng, qSe_of, qEs_nil, qEs_cons, qO_no, qO_so, qT_v, qT_one, qT_and, qT_or, qT_not, qTs_nil, qTs_cons, qI_e, qI_rng, qI_keys, qI_keysv, qI_kk, qI_enum, qI_zip, qA_nil, qA_cons, qA_io, qS_asg, qS_asgT, qS_par, qS_setx, qS_app, qS_expr, qS_ret, qS_retv, qS_retn, qS_ife, qS_setf, qS_appx, qS_clrt, qS_pass, qS_never, qSs_nil, qSs_cons, R.bind, R.of, W.fz, fzs, backO, callR, newR, cmpT, cmpI2, cmpInt, T.tru, opT, opInt, biT, lenT, listT, tupleT, intT, allT, hidOk, tgIn, wipeE, backE, isiT, tyT, Ty.sub, ixT, maxT, hl, hc, m1, m2, m3, m4, m6, hb, big1]
    · rw [if_neg hl] at hc
      cases hc
      have hb0 : big = 0 := by rw [← hb]; decide
      subst hb0
      refine fin 0 (by decide) ?_
      simp [Sh.ir20, qE_int, qE_bl, qE_non, qE_str, qE_cst, qE_rd, qE_rdx, qE_op, qE_neg, qE_cmp, qE_chn, qE_one, qE_and, qE_or, qE_not, qE_ife, qE_tup, qE_lst, qE_ix, qE_sl, qE_bi, qE_isi, qE_isis, qE_call, qE_callk, qE_lenS, qE_srtS, qE_lrng3, qE_rev, qE_alt, qE_fld, qE_fldv, qE_meth, qE_methv, qE_prop, qE_new, qE_newst, qE_newdd, qE_deq, qE_callw, qE_own, qE_ownE, qE_ownB, qE_ownN, qE_ownI, qE_isc, qE_dct, qE_items, qE_kin, qE_kget, qE_klist, qE_popv, qE_lenv, qE_cmpv, qE_lrng, qSe_of, qEs_nil, qEs_cons, qO_no, qO_so, qT_v, qT_one, qT_and, qT_or, qT_not, qTs_nil, qTs_cons, qI_e, qI_rng, qI_keys, qI_keysv, qI_kk, qI_enum, qI_zip, qA_nil, qA_cons, qA_io, qS_asg, qS_asgT, qS_par, qS_setx, qS_app, qS_expr, qS_ret, qS_retv, qS_retn, qS_ife, qS_setf, qS_appx, qS_clrt, qS_pass, qS_never, qSs_nil, qSs_cons, R.bind, R.of, W.fz, fzs, backO, callR, newR, cmpT, cmpI2, cmpInt, T.tru, opT, opInt, biT, lenT, listT, tupleT, intT, allT, hidOk, tgIn, wipeE, backE, isiT, tyT, Ty.sub, ixT, maxT, hl, m1, m2, m3, m4, m6]
  by_cases hl : k < (ns.length : Int)
  · have : ∃ c, atI ns k = some c := by
      unfold atI ixN
      rw [if_pos hk, if_pos hl]
      have : k.toNat < ns.length := by omega
      exact ⟨ns[k.toNat], List.getElem?_eq_getElem this⟩
    obtain ⟨c, ec⟩ := this
    exact main c (by rw [if_pos hl, ec])
  · exact main 0 (by rw [if_neg hl])
end Zk04
namespace Ev
open PySem
variable {G : Nat → Option T} {C : Calls}
theorem ev_ownE {c : Str} {cs : List Str} {f : Nat} {a b : E} {env e1 e2 : Env} {x y r : W} (h1 : evE G C a env = .ok x e1) (h2 : evE G C b e1 = .ok y e2) (h : (isOf c x.fz && (iscT c cs y.fz).isSome) = true) (hc : C f [.val x.fz, .val y.fz] = .ok r []) : evE G C (.ownE c cs f a b) env = .ok r e2 := by
  rw [qE_ownE, h1]
  show ((evE G C b e1).bind _) = _
  rw [h2]
  show (if (isOf c x.fz && (iscT c cs y.fz).isSome) = true then callR [] (C f [.val x.fz, .val y.fz]) e2 else R.no) = _
  rw [if_pos h, hc]
  rfl
theorem ev_ownB {c : Str} {f : Nat} {a b : E} {env e1 e2 : Env} {x y r : W} (h1 : evE G C a env = .ok x e1) (h2 : evE G C b e1 = .ok y e2) (h : (isOf c x.fz && isOf c y.fz) = true) (hc : C f [.val x.fz, .val y.fz] = .ok r []) : evE G C (.ownB c f a b) env = .ok r e2 := by
  rw [qE_ownB, h1]
  show ((evE G C b e1).bind _) = _
  rw [h2]
  show (if (isOf c x.fz && isOf c y.fz) = true then callR [] (C f [.val x.fz, .val y.fz]) e2 else R.no) = _
  rw [if_pos h, hc]
  rfl
theorem ev_ownN {c : Str} {f : Nat} {a b : E} {env e1 e2 : Env} {x y : W} {k : Bool} (h1 : evE G C a env = .ok x e1) (h2 : evE G C b e1 = .ok y e2) (h : (isOf c x.fz && isOf c y.fz) = true) (hc : C f [.val x.fz, .val y.fz] = .ok (.val (.bl k)) []) : evE G C (.ownN c f a b) env = .ok (.val (.bl (!k))) e2 := by
  rw [qE_ownN, h1]
  show ((evE G C b e1).bind _) = _
  rw [h2]
  show (if (isOf c x.fz && isOf c y.fz) = true then (callR [] (C f [.val x.fz, .val y.fz]) e2).bind _ else R.no) = _
  rw [if_pos h, hc]
  rfl
theorem t_v_bl {a : E} {env e1 : Env} {k : Bool} (h : evE G C a env = .ok (.val (.bl k)) e1) : evT G C (.v a) env = .ok k e1 := by
  rw [qT_v, h]
  rfl
theorem e_eq {A B : E} {env e1 e2 : Env} {wa wb : W} {b : Bool} (h1 : evE G C A env = .ok wa e1) (h2 : evE G C B e1 = .ok wb e2) (h : eqT wa.fz wb.fz = some b) : evE G C (.cmp .Eq A B) env = .ok (.val (.bl b)) e2 := by
  rw [qE_cmp, h1]
  show ((evE G C B e1).bind _) = _
  rw [h2]
  show (R.of ((eqT wa.fz wb.fz).map fun b => W.val (.bl b)) e2) = _
  rw [h]
  rfl
theorem ev_meth2 {c m : Str} {f : Nat} {a p q : E} {env e1 e2 e3 : Env} {x y z r : W} (h1 : evE G C a env = .ok x e1) (hi : isIns c m x.fz = true) (h2 : evE G C p e1 = .ok y e2) (h3 : evE G C q e2 = .ok z e3) (hc : C f [.val x.fz, .val y.fz, .val z.fz] = .ok r []) : evE G C (.meth c m f a (.cons p (.cons q .nil)) []) env = .ok r e3 := by
  rw [qE_meth, h1]
  show (if isIns c m x.fz = true then (evA G C (.cons p (.cons q .nil)) e1).bind _ else R.no) = _
  rw [if_pos hi]
  simp [qA_cons, qA_nil, h2, h3, R.bind, hc, callR, backO]
theorem eqT_strs_nil {ss : List Str} (h : ∀ s ∈ ss, PyData.strOk s = true) : eqT (.lst (ss.map .str)) (.lst []) = some ss.isEmpty := by
  cases ss with
  | nil => exact eqT_nil0
  | cons s r => exact eqT_nil1 (Pl.lst (Pl.strs h))
theorem filter_empty {α : Type} (p : α → Bool) : ∀ l : List α, (l.filter p).isEmpty = l.all fun x => !p x
  | [] => rfl
  | a :: l => by
    rw [List.filter_cons, List.all_cons, ← filter_empty p l]
    cases p a <;> simp
end Ev
namespace Zk04
open PySem L2 Ev
abbrev G6 : Nat → Option T := cstG tx.cs
abbrev B29 : Ss := (Ss.at_ 2 ir29).body
theorem unl_ok {pe : Bool} {es : List Bool} : ∀ s ∈ unl pe es, PyData.strOk s = true := by
  intro s hs
  rcases List.mem_append.mp hs with h | h
  · cases pe with
    | true => cases h
    | false =>
      rw [List.mem_singleton.mp h]
      decide +kernel
  · have h := (List.mem_filter.mp h).1
    simp only [nm9, List.mem_cons, List.not_mem_nil, or_false] at h
    rcases h with rfl | rfl | rfl | rfl | rfl | rfl | rfl | rfl | rfl <;> decide +kernel
theorem unl_fz (pe : Bool) (es : List Bool) : (unlW pe es).fz = .lst ((unl pe es).map .str) := by
  show T.lst (fzs _) = _
  rw [fzs_strs]
theorem unl_refl (pe : Bool) (es : List Bool) : eqT (unlW pe es).fz (unlW pe es).fz = some true := by
  rw [unl_fz]
  exact (Pl.lst (Pl.strs unl_ok)).refl
theorem unl_nil (pe e0 e1 e2 e3 e4 e5 e6 e7 e8 : Bool) : eqT (unlW pe [e0, e1, e2, e3, e4, e5, e6, e7, e8]).fz (.lst []) = some (pe && (e0 && (e1 && (e2 && (e3 && (e4 && (e5 && (e6 && (e7 && e8))))))))) := by
  rw [unl_fz, eqT_strs_nil unl_ok]
  congr 1
  have e := filter_empty (pk [e0, e1, e2, e3, e4, e5, e6, e7, e8]) nm9
  cases pe with
  | false => rfl
  | true =>
    show (nm9.filter (pk [e0, e1, e2, e3, e4, e5, e6, e7, e8])).isEmpty = _
    rw [e]
    simp [nm9, pk, getN, str_inj]
structure Pl9 (c0 c1 c2 c3 c4 c5 c6 c7 c8 : T) : Prop where
  h0 : Pl c0 0
  h1 : Pl c1 0
  h2 : Pl c2 0
  h3 : Pl c3 0
  h4 : Pl c4 0
  h5 : Pl c5 0
  h6 : Pl c6 0
  h7 : Pl c7 0
  h8 : Pl c8 0
theorem ChOk.pl {c0 c1 c2 c3 c4 c5 c6 c7 c8 : T} (k : ChOk c0 c1 c2 c3 c4 c5 c6 c7 c8) : Pl9 c0 c1 c2 c3 c4 c5 c6 c7 c8 := by
  obtain ⟨h0, h1, h2, h3, h4, h5, h6, h7, h8⟩ := k
  simp only [List.mem_cons, List.not_mem_nil, or_false] at h0 h1 h2 h3 h4 h5 h6 h7 h8
  refine ⟨?_, ?_, ?_, ?_, ?_, ?_, ?_, ?_, ?_⟩
  · rcases h0 with rfl | rfl <;> exact Pl.str (by decide +kernel)
  · rcases h1 with rfl | rfl | rfl <;> exact Pl.str (by decide +kernel)
  · rcases h2 with rfl | rfl | rfl <;> exact Pl.str (by decide +kernel)
  · rcases h3 with rfl | rfl | rfl <;> exact Pl.str (by decide +kernel)
  · rcases h4 with rfl | rfl <;> exact Pl.int
  · rcases h5 with rfl | rfl <;> exact Pl.str (by decide +kernel)
  · rcases h6 with rfl | rfl | rfl <;> exact Pl.str (by decide +kernel)
  · rcases h7 with rfl | rfl <;> exact Pl.bl
  · rcases h8 with rfl | rfl <;> exact Pl.str (by decide +kernel)
theorem sg_pl {gs : List (List Str)} (h : GOk gs) : Pl (sgT gs) 2 := Pl.tup fun t ht => by
  obtain ⟨g, hg, rfl⟩ := List.mem_map.mp ht
  exact Pl.tup (Pl.strs fun x hx => h.ok g hg x (sortS_mem.mp hx))
def tldW (g c0 c1 c2 c3 c4 c5 c6 c7 c8 : T) : W := .lst [.val g, .val g, .val c0, .val c1, .val c2, .val c3, .val c4, .val c5, .val c6, .val c7, .val c8]
theorem tld_refl {gs : List (List Str)} (h : GOk gs) {c0 c1 c2 c3 c4 c5 c6 c7 c8 : T} (k : ChOk c0 c1 c2 c3 c4 c5 c6 c7 c8) : eqT (tldW (sgT gs) c0 c1 c2 c3 c4 c5 c6 c7 c8).fz (tldW (sgT gs) c0 c1 c2 c3 c4 c5 c6 c7 c8).fz = some true := by
  obtain ⟨h0, h1, h2, h3, h4, h5, h6, h7, h8⟩ := k.pl
  have hg := sg_pl h
  refine (Pl.lst (n := 2) fun t ht => ?_).refl
  simp only [fzs, W.fz, List.mem_cons, List.not_mem_nil, or_false] at ht
  rcases ht with rfl | rfl | rfl | rfl | rfl | rfl | rfl | rfl | rfl | rfl | rfl
  · exact hg
  · exact hg
  · exact h0.mono (by omega)
  · exact h1.mono (by omega)
  · exact h2.mono (by omega)
  · exact h3.mono (by omega)
  · exact h4.mono (by omega)
  · exact h5.mono (by omega)
  · exact h6.mono (by omega)
  · exact h7.mono (by omega)
  · exact h8.mono (by omega)
theorem eq9_of {c0 c1 c2 c3 c4 c5 c6 c7 c8 a0 a1 a2 a3 a4 a5 a6 a7 a8 : T} (k : ChOk c0 c1 c2 c3 c4 c5 c6 c7 c8) (l : ChOk a0 a1 a2 a3 a4 a5 a6 a7 a8) : ∃ e0 e1 e2 e3 e4 e5 e6 e7 e8, Eq9 c0 c1 c2 c3 c4 c5 c6 c7 c8 a0 a1 a2 a3 a4 a5 a6 a7 a8 e0 e1 e2 e3 e4 e5 e6 e7 e8 := by
  obtain ⟨h0, h1, h2, h3, h4, h5, h6, h7, h8⟩ := k.pl
  obtain ⟨g0, g1, g2, g3, g4, g5, g6, g7, g8⟩ := l.pl
  obtain ⟨e0, q0⟩ := h0.two g0
  obtain ⟨e1, q1⟩ := h1.two g1
  obtain ⟨e2, q2⟩ := h2.two g2
  obtain ⟨e3, q3⟩ := h3.two g3
  obtain ⟨e4, q4⟩ := h4.two g4
  obtain ⟨e5, q5⟩ := h5.two g5
  obtain ⟨e6, q6⟩ := h6.two g6
  obtain ⟨e7, q7⟩ := h7.two g7
  obtain ⟨e8, q8⟩ := h8.two g8
  exact ⟨e0, e1, e2, e3, e4, e5, e6, e7, e8, q0, q1, q2, q3, q4, q5, q6, q7, q8⟩
theorem eq9_refl {c0 c1 c2 c3 c4 c5 c6 c7 c8 : T} (k : ChOk c0 c1 c2 c3 c4 c5 c6 c7 c8) : Eq9 c0 c1 c2 c3 c4 c5 c6 c7 c8 c0 c1 c2 c3 c4 c5 c6 c7 c8 true true true true true true true true true := by
  obtain ⟨h0, h1, h2, h3, h4, h5, h6, h7, h8⟩ := k.pl
  exact ⟨h0.refl, h1.refl, h2.refl, h3.refl, h4.refl, h5.refl, h6.refl, h7.refl, h8.refl⟩
section
variable (s k n f : T) (w : W) (o5 x y o8 o9 : Option W)
abbrev E10 : Ev.Env := [some (.val s), some (.val k), some w, some (.val n), some (.val f), o5, x, y, o8, o9]
end
section
variable {s k : T} {w : W} {gs gs' : List (List Str)} (hg : GOk gs) (hg' : GOk gs') {c0 c1 c2 c3 c4 c5 c6 c7 c8 a0 a1 a2 a3 a4 a5 a6 a7 a8 : T} (hc : ChOk c0 c1 c2 c3 c4 c5 c6 c7 c8) (ha : ChOk a0 a1 a2 a3 a4 a5 a6 a7 a8)
abbrev nearT (gs : List (List Str)) (c0 c1 c2 c3 c4 c5 c6 c7 c8 : T) : T := pairT gs (chT c0 c1 c2 c3 c4 c5 c6 c7 c8)
abbrev oneT (gs : List (List Str)) (c0 c1 c2 c3 c4 c5 c6 c7 c8 : T) : T := rulT (planT (sgT gs)) (chT c0 c1 c2 c3 c4 c5 c6 c7 c8)
include hg hg' hc ha
theorem s4 (o5 o8 o9 : Option W) : evS G6 (Cl 5) (Ss.at_ 4 B29) (E10 s k (nearT gs c0 c1 c2 c3 c4 c5 c6 c7 c8) (nearT gs' a0 a1 a2 a3 a4 a5 a6 a7 a8) w o5 (some (rulW (planT (sgT gs)) c0 c1 c2 c3 c4 c5 c6 c7 c8)) (some (rulW (planT (sgT gs')) a0 a1 a2 a3 a4 a5 a6 a7 a8)) o8 o9) = .ok .nx (E10 s k (nearT gs c0 c1 c2 c3 c4 c5 c6 c7 c8) (nearT gs' a0 a1 a2 a3 a4 a5 a6 a7 a8) w o5 (some (.val (oneT gs c0 c1 c2 c3 c4 c5 c6 c7 c8))) (some (rulW (planT (sgT gs')) a0 a1 a2 a3 a4 a5 a6 a7 a8)) o8 o9) :=
  if_no (t_ne (call1 (rd_any rfl) (told_ev 2 (sgT gs) c0 c1 c2 c3 c4 c5 c6 c7 c8)) (call2 (e1 := (E10 s k (nearT gs c0 c1 c2 c3 c4 c5 c6 c7 c8) (nearT gs' a0 a1 a2 a3 a4 a5 a6 a7 a8) w o5 (some (.val (oneT gs c0 c1 c2 c3 c4 c5 c6 c7 c8))) (some (rulW (planT (sgT gs')) a0 a1 a2 a3 a4 a5 a6 a7 a8)) o8 o9)) (e2 := (E10 s k (nearT gs c0 c1 c2 c3 c4 c5 c6 c7 c8) (nearT gs' a0 a1 a2 a3 a4 a5 a6 a7 a8) w o5 (some (.val (oneT gs c0 c1 c2 c3 c4 c5 c6 c7 c8))) (some (rulW (planT (sgT gs')) a0 a1 a2 a3 a4 a5 a6 a7 a8)) o8 o9)) (w := .val (.lst (gs.map gT1))) (v := .val (chT c0 c1 c2 c3 c4 c5 c6 c7 c8)) rfl rfl (due_ev 3 gs hg.glen c0 c1 c2 c3 c4 c5 c6 c7 c8)) (tld_refl hg hc))
theorem s5 (o5 o8 o9 : Option W) : evS G6 (Cl 5) (Ss.at_ 5 B29) (E10 s k (nearT gs c0 c1 c2 c3 c4 c5 c6 c7 c8) (nearT gs' a0 a1 a2 a3 a4 a5 a6 a7 a8) w o5 (some (.val (oneT gs c0 c1 c2 c3 c4 c5 c6 c7 c8))) (some (rulW (planT (sgT gs')) a0 a1 a2 a3 a4 a5 a6 a7 a8)) o8 o9) = .ok .nx (E10 s k (nearT gs c0 c1 c2 c3 c4 c5 c6 c7 c8) (nearT gs' a0 a1 a2 a3 a4 a5 a6 a7 a8) w o5 (some (.val (oneT gs c0 c1 c2 c3 c4 c5 c6 c7 c8))) (some (.val (oneT gs' a0 a1 a2 a3 a4 a5 a6 a7 a8))) o8 o9) :=
  if_no (t_ne (call1 (rd_any rfl) (told_ev 2 (sgT gs') a0 a1 a2 a3 a4 a5 a6 a7 a8)) (call2 (e1 := (E10 s k (nearT gs c0 c1 c2 c3 c4 c5 c6 c7 c8) (nearT gs' a0 a1 a2 a3 a4 a5 a6 a7 a8) w o5 (some (.val (oneT gs c0 c1 c2 c3 c4 c5 c6 c7 c8))) (some (.val (oneT gs' a0 a1 a2 a3 a4 a5 a6 a7 a8))) o8 o9)) (e2 := (E10 s k (nearT gs c0 c1 c2 c3 c4 c5 c6 c7 c8) (nearT gs' a0 a1 a2 a3 a4 a5 a6 a7 a8) w o5 (some (.val (oneT gs c0 c1 c2 c3 c4 c5 c6 c7 c8))) (some (.val (oneT gs' a0 a1 a2 a3 a4 a5 a6 a7 a8))) o8 o9)) (w := .val (.lst (gs'.map gT1))) (v := .val (chT a0 a1 a2 a3 a4 a5 a6 a7 a8)) rfl rfl (due_ev 3 gs' hg'.glen a0 a1 a2 a3 a4 a5 a6 a7 a8)) (tld_refl hg' ha))
theorem s12 (o5 o8 o9 : Option W) : evS G6 (Cl 5) (Ss.at_ 12 B29) (E10 s k (nearT gs c0 c1 c2 c3 c4 c5 c6 c7 c8) (nearT gs' a0 a1 a2 a3 a4 a5 a6 a7 a8) w o5 (some (.val (oneT gs c0 c1 c2 c3 c4 c5 c6 c7 c8))) (some (.val (oneT gs' a0 a1 a2 a3 a4 a5 a6 a7 a8))) o8 o9) = .ok .nx (E10 s k (nearT gs c0 c1 c2 c3 c4 c5 c6 c7 c8) (nearT gs' a0 a1 a2 a3 a4 a5 a6 a7 a8) w o5 (some (.val (oneT gs c0 c1 c2 c3 c4 c5 c6 c7 c8))) (some (.val (oneT gs' a0 a1 a2 a3 a4 a5 a6 a7 a8))) o8 o9) :=
  if_no (t_ne (call1 (rd_any rfl) (told_ev 2 (sgT gs) c0 c1 c2 c3 c4 c5 c6 c7 c8)) (call2 (e1 := (E10 s k (nearT gs c0 c1 c2 c3 c4 c5 c6 c7 c8) (nearT gs' a0 a1 a2 a3 a4 a5 a6 a7 a8) w o5 (some (.val (oneT gs c0 c1 c2 c3 c4 c5 c6 c7 c8))) (some (.val (oneT gs' a0 a1 a2 a3 a4 a5 a6 a7 a8))) o8 o9)) (e2 := (E10 s k (nearT gs c0 c1 c2 c3 c4 c5 c6 c7 c8) (nearT gs' a0 a1 a2 a3 a4 a5 a6 a7 a8) w o5 (some (.val (oneT gs c0 c1 c2 c3 c4 c5 c6 c7 c8))) (some (.val (oneT gs' a0 a1 a2 a3 a4 a5 a6 a7 a8))) o8 o9)) (w := .val (.lst (gs.map gT1))) (v := .val (chT c0 c1 c2 c3 c4 c5 c6 c7 c8)) rfl rfl (due_ev 3 gs hg.glen c0 c1 c2 c3 c4 c5 c6 c7 c8)) (tld_refl hg hc))
theorem s6 (o5 o8 o9 : Option W) : evS G6 (Cl 5) (Ss.at_ 6 B29) (E10 s k (nearT gs c0 c1 c2 c3 c4 c5 c6 c7 c8) (nearT gs' a0 a1 a2 a3 a4 a5 a6 a7 a8) w o5 (some (.val (oneT gs c0 c1 c2 c3 c4 c5 c6 c7 c8))) (some (.val (oneT gs' a0 a1 a2 a3 a4 a5 a6 a7 a8))) o8 o9) = .ok .nx (E10 s k (nearT gs c0 c1 c2 c3 c4 c5 c6 c7 c8) (nearT gs' a0 a1 a2 a3 a4 a5 a6 a7 a8) w o5 (some (.val (oneT gs c0 c1 c2 c3 c4 c5 c6 c7 c8))) (some (.val (oneT gs' a0 a1 a2 a3 a4 a5 a6 a7 a8))) o8 o9) := by
  obtain ⟨e0, e1, e2, e3, e4, e5, e6, e7, e8, q⟩ := eq9_of hc ha
  obtain ⟨pe, hp⟩ := (sg_pl hg).two (sg_pl hg')
  exact if_no (t_ne (ev_ownB (x := (.val (oneT gs c0 c1 c2 c3 c4 c5 c6 c7 c8))) (y := (.val (oneT gs' a0 a1 a2 a3 a4 a5 a6 a7 a8))) rfl rfl rfl (sub_ev 2 _ _ pe hp q)) (call2 (w := .val (nearT gs c0 c1 c2 c3 c4 c5 c6 c7 c8)) (v := .val (nearT gs' a0 a1 a2 a3 a4 a5 a6 a7 a8)) rfl rfl (lunl_ev 3 gs gs' hg.glen hg'.glen pe hp q)) (unl_refl _ _))
theorem s7 (o5 o8 o9 : Option W) : evS G6 (Cl 5) (Ss.at_ 7 B29) (E10 s k (nearT gs c0 c1 c2 c3 c4 c5 c6 c7 c8) (nearT gs' a0 a1 a2 a3 a4 a5 a6 a7 a8) w o5 (some (.val (oneT gs c0 c1 c2 c3 c4 c5 c6 c7 c8))) (some (.val (oneT gs' a0 a1 a2 a3 a4 a5 a6 a7 a8))) o8 o9) = .ok .nx (E10 s k (nearT gs c0 c1 c2 c3 c4 c5 c6 c7 c8) (nearT gs' a0 a1 a2 a3 a4 a5 a6 a7 a8) w o5 (some (.val (oneT gs c0 c1 c2 c3 c4 c5 c6 c7 c8))) (some (.val (oneT gs' a0 a1 a2 a3 a4 a5 a6 a7 a8))) o8 o9) := by
  obtain ⟨e0, e1, e2, e3, e4, e5, e6, e7, e8, q⟩ := eq9_of ha hc
  obtain ⟨pe, hp⟩ := (sg_pl hg').two (sg_pl hg)
  refine if_no (t_or (t_ne (ev_ownB (x := (.val (oneT gs' a0 a1 a2 a3 a4 a5 a6 a7 a8))) (y := (.val (oneT gs c0 c1 c2 c3 c4 c5 c6 c7 c8))) rfl rfl rfl (sub_ev 2 _ _ pe hp q)) (call2 (w := .val (nearT gs' a0 a1 a2 a3 a4 a5 a6 a7 a8)) (v := .val (nearT gs c0 c1 c2 c3 c4 c5 c6 c7 c8)) rfl rfl (lunl_ev 3 gs' gs hg'.glen hg.glen pe hp q)) (unl_refl _ _)) ?_)
  exact t_ne (wb := .lst []) (ev_ownB (x := (.val (oneT gs c0 c1 c2 c3 c4 c5 c6 c7 c8))) (y := (.val (oneT gs c0 c1 c2 c3 c4 c5 c6 c7 c8))) rfl rfl rfl (sub_ev 2 _ _ true (sg_pl hg).refl (eq9_refl hc))) rfl (unl_nil true true true true true true true true true true)
theorem s8 (o5 o8 o9 : Option W) : evS G6 (Cl 5) (Ss.at_ 8 B29) (E10 s k (nearT gs c0 c1 c2 c3 c4 c5 c6 c7 c8) (nearT gs' a0 a1 a2 a3 a4 a5 a6 a7 a8) w o5 (some (.val (oneT gs c0 c1 c2 c3 c4 c5 c6 c7 c8))) (some (.val (oneT gs' a0 a1 a2 a3 a4 a5 a6 a7 a8))) o8 o9) = .ok .nx (E10 s k (nearT gs c0 c1 c2 c3 c4 c5 c6 c7 c8) (nearT gs' a0 a1 a2 a3 a4 a5 a6 a7 a8) w o5 (some (.val (oneT gs c0 c1 c2 c3 c4 c5 c6 c7 c8))) (some (.val (oneT gs' a0 a1 a2 a3 a4 a5 a6 a7 a8))) o8 o9) := by
  obtain ⟨e0, e1, e2, e3, e4, e5, e6, e7, e8, q⟩ := eq9_of hc ha
  obtain ⟨pe, hp⟩ := (sg_pl hg).two (sg_pl hg')
  refine if_no (t_or (t_ne (b := true) (ev_ownE (x := (.val (oneT gs c0 c1 c2 c3 c4 c5 c6 c7 c8))) (y := (.val (oneT gs' a0 a1 a2 a3 a4 a5 a6 a7 a8))) rfl rfl rfl (eq_ev 3 _ _ pe hp q)) (e_eq (wb := .lst []) (call2 (w := .val (nearT gs c0 c1 c2 c3 c4 c5 c6 c7 c8)) (v := .val (nearT gs' a0 a1 a2 a3 a4 a5 a6 a7 a8)) rfl rfl (lunl_ev 3 gs gs' hg.glen hg'.glen pe hp q)) rfl (unl_nil _ _ _ _ _ _ _ _ _ _)) Pl.bl.refl) ?_)
  exact t_v_bl (ev_ownE (x := (.val (oneT gs c0 c1 c2 c3 c4 c5 c6 c7 c8))) (y := .val (nearT gs c0 c1 c2 c3 c4 c5 c6 c7 c8)) rfl rfl rfl (by kernel_rfl))
theorem s9 (o5 o8 o9 : Option W) : evS G6 (Cl 5) (Ss.at_ 9 B29) (E10 s k (nearT gs c0 c1 c2 c3 c4 c5 c6 c7 c8) (nearT gs' a0 a1 a2 a3 a4 a5 a6 a7 a8) w o5 (some (.val (oneT gs c0 c1 c2 c3 c4 c5 c6 c7 c8))) (some (.val (oneT gs' a0 a1 a2 a3 a4 a5 a6 a7 a8))) o8 o9) = .ok .nx (E10 s k (nearT gs c0 c1 c2 c3 c4 c5 c6 c7 c8) (nearT gs' a0 a1 a2 a3 a4 a5 a6 a7 a8) w o5 (some (.val (oneT gs c0 c1 c2 c3 c4 c5 c6 c7 c8))) (some (.val (oneT gs' a0 a1 a2 a3 a4 a5 a6 a7 a8))) o8 o9) :=
  if_no (t_v_bl (k := false) (ev_ownN (k := true) (x := (.val (oneT gs c0 c1 c2 c3 c4 c5 c6 c7 c8))) rfl (call2 (w := .val (.lst (gs.map gT1))) (v := .val (chT c0 c1 c2 c3 c4 c5 c6 c7 c8)) rfl rfl (rules_ev 0 gs hg c0 c1 c2 c3 c4 c5 c6 c7 c8 hc)) rfl (eq_ev 3 _ _ true (sg_pl hg).refl (eq9_refl hc))))
theorem s11 (o5 o8 o9 : Option W) : evS G6 (Cl 5) (Ss.at_ 11 B29) (E10 s k (nearT gs c0 c1 c2 c3 c4 c5 c6 c7 c8) (nearT gs' a0 a1 a2 a3 a4 a5 a6 a7 a8) w o5 (some (.val (oneT gs c0 c1 c2 c3 c4 c5 c6 c7 c8))) (some (.val (oneT gs' a0 a1 a2 a3 a4 a5 a6 a7 a8))) o8 o9) = .ok .nx (E10 s k (nearT gs c0 c1 c2 c3 c4 c5 c6 c7 c8) (nearT gs' a0 a1 a2 a3 a4 a5 a6 a7 a8) w o5 (some (.val (oneT gs c0 c1 c2 c3 c4 c5 c6 c7 c8))) (some (.val (oneT gs' a0 a1 a2 a3 a4 a5 a6 a7 a8))) o8 o9) :=
  if_no (t_ne (call1 (ev_meth2 (x := (.val (oneT gs c0 c1 c2 c3 c4 c5 c6 c7 c8))) (y := .val (.str "plan")) rfl rfl rfl (call1 (w := .val (.lst (gs'.map gT1))) rfl (plan_of 1 gs' hg')) (chgP 0 (sgT gs) (sgT gs') hc)) (told_ev 2 (sgT gs') c0 c1 c2 c3 c4 c5 c6 c7 c8)) (call2 (w := .val (.lst (gs'.map gT1))) (v := .val (chT c0 c1 c2 c3 c4 c5 c6 c7 c8)) rfl rfl (due_ev 3 gs' hg'.glen c0 c1 c2 c3 c4 c5 c6 c7 c8)) (tld_refl hg' hc))
theorem s13 (o5 o8 o9 : Option W) : evS G6 (Cl 5) (Ss.at_ 13 B29) (E10 s k (nearT gs c0 c1 c2 c3 c4 c5 c6 c7 c8) (nearT gs' a0 a1 a2 a3 a4 a5 a6 a7 a8) w o5 (some (.val (oneT gs c0 c1 c2 c3 c4 c5 c6 c7 c8))) (some (.val (oneT gs' a0 a1 a2 a3 a4 a5 a6 a7 a8))) o8 o9) = .ok .nx (E10 s k (nearT gs c0 c1 c2 c3 c4 c5 c6 c7 c8) (nearT gs' a0 a1 a2 a3 a4 a5 a6 a7 a8) w o5 (some (.val (oneT gs c0 c1 c2 c3 c4 c5 c6 c7 c8))) (some (.val (oneT gs' a0 a1 a2 a3 a4 a5 a6 a7 a8))) o8 o9) := by kernel_rfl
theorem s14 (o5 o8 o9 : Option W) : evS G6 (Cl 5) (Ss.at_ 14 B29) (E10 s k (nearT gs c0 c1 c2 c3 c4 c5 c6 c7 c8) (nearT gs' a0 a1 a2 a3 a4 a5 a6 a7 a8) w o5 (some (.val (oneT gs c0 c1 c2 c3 c4 c5 c6 c7 c8))) (some (.val (oneT gs' a0 a1 a2 a3 a4 a5 a6 a7 a8))) o8 o9) = .ok .nx (E10 s k (nearT gs c0 c1 c2 c3 c4 c5 c6 c7 c8) (nearT gs' a0 a1 a2 a3 a4 a5 a6 a7 a8) w o5 (some (.val (oneT gs c0 c1 c2 c3 c4 c5 c6 c7 c8))) (some (.val (oneT gs' a0 a1 a2 a3 a4 a5 a6 a7 a8))) o8 o9) := by
  have p1 := plan_of 1 gs hg
  have i1 := init_ev 1 (sgT gs) _ _ _ _ _ _ _ _ _ usual_ok
  have mk : evE G6 (Cl 5) (.new "Rules" 12 (.cons (.call 6 (.cons (.ix (.rd 3) (.int 0)) .nil) []) .nil) .nil [.p 0, .d 0 (.str "quiet"), .d 1 (.str "ahead"), .d 2 (.str "ahead"), .d 3 (.str "flagged"), .d 4 (.int 0), .d 5 (.str "both"), .d 6 (.str "lock"), .d 7 (.bl true), .d 8 (.str "source")]) (E10 s k (nearT gs c0 c1 c2 c3 c4 c5 c6 c7 c8) (nearT gs' a0 a1 a2 a3 a4 a5 a6 a7 a8) w o5 (some (.val (oneT gs c0 c1 c2 c3 c4 c5 c6 c7 c8))) (some (.val (oneT gs' a0 a1 a2 a3 a4 a5 a6 a7 a8))) o8 o9) =
      .ok (rulW (planT (sgT gs)) (.str "quiet") (.str "ahead") (.str "ahead") (.str "flagged") (.int 0) (.str "both") (.str "lock") (.bl true) (.str "source")) (E10 s k (nearT gs c0 c1 c2 c3 c4 c5 c6 c7 c8) (nearT gs' a0 a1 a2 a3 a4 a5 a6 a7 a8) w o5 (some (.val (oneT gs c0 c1 c2 c3 c4 c5 c6 c7 c8))) (some (.val (oneT gs' a0 a1 a2 a3 a4 a5 a6 a7 a8))) o8 o9) := by
    have c1 : evE G6 (Cl 5) (.call 6 (.cons (.ix (.rd 3) (.int 0)) .nil) []) (E10 s k (nearT gs c0 c1 c2 c3 c4 c5 c6 c7 c8) (nearT gs' a0 a1 a2 a3 a4 a5 a6 a7 a8) w o5 (some (.val (oneT gs c0 c1 c2 c3 c4 c5 c6 c7 c8))) (some (.val (oneT gs' a0 a1 a2 a3 a4 a5 a6 a7 a8))) o8 o9) = .ok (planW gs) (E10 s k (nearT gs c0 c1 c2 c3 c4 c5 c6 c7 c8) (nearT gs' a0 a1 a2 a3 a4 a5 a6 a7 a8) w o5 (some (.val (oneT gs c0 c1 c2 c3 c4 c5 c6 c7 c8))) (some (.val (oneT gs' a0 a1 a2 a3 a4 a5 a6 a7 a8))) o8 o9) := call1 (w := .val (.lst (gs.map gT1))) rfl p1
    have e : (planW gs).fz = planT (sgT gs) := rfl
    simp only [qE_new, qEs_cons, qEs_nil, c1, R.bind, arr, fzs, e, List.getElem?_cons_zero, Option.bind_some, Option.map_some, List.map_cons, List.map_nil]
    rw [i1]
    simp only [newR]
  exact if_no (t_v_bl (k := false) (ev_ownN (k := true) mk (call2 (w := .val (.lst (gs.map gT1))) (v := chW (.str "quiet") (.str "ahead") (.str "ahead") (.str "flagged") (.int 0) (.str "both") (.str "lock") (.bl true) (.str "source")) rfl (by kernel_rfl) (rules_ev 0 gs hg _ _ _ _ _ _ _ _ _ usual_ok)) rfl (eq_ev 3 _ _ true (sg_pl hg).refl (eq9_refl usual_ok))))
end
end Zk04
namespace Zk04
open PySem L2 Ev
abbrev Bin : Ss := (Ss.at_ 0 (Ss.at_ 10 B29).body).body
section
variable {s k : T} {w : W} {gs gs' : List (List Str)} (hg : GOk gs) (hg' : GOk gs') {c0 c1 c2 c3 c4 c5 c6 c7 c8 a0 a1 a2 a3 a4 a5 a6 a7 a8 : T} (hc : ChOk c0 c1 c2 c3 c4 c5 c6 c7 c8) (ha : ChOk a0 a1 a2 a3 a4 a5 a6 a7 a8)
include hg hg' hc ha
theorem in0 (v : T) (hv : v ∈ ([.str "quiet", .str "any"] : List T)) (o9 : Option W) : evSs G6 (Cl 5) Bin (E10 s k (nearT gs c0 c1 c2 c3 c4 c5 c6 c7 c8) (nearT gs' a0 a1 a2 a3 a4 a5 a6 a7 a8) w (some (.val (.str "clear"))) (some (.val (oneT gs c0 c1 c2 c3 c4 c5 c6 c7 c8))) (some (.val (oneT gs' a0 a1 a2 a3 a4 a5 a6 a7 a8))) (some (.val v)) o9) = .ok .nx (E10 s k (nearT gs c0 c1 c2 c3 c4 c5 c6 c7 c8) (nearT gs' a0 a1 a2 a3 a4 a5 a6 a7 a8) w (some (.val (.str "clear"))) (some (.val (oneT gs c0 c1 c2 c3 c4 c5 c6 c7 c8))) (some (.val (oneT gs' a0 a1 a2 a3 a4 a5 a6 a7 a8))) (some (.val v)) (some (.val (chT v c1 c2 c3 c4 c5 c6 c7 c8)))) := by
  refine ss_step (s := Ss.at_ 0 Bin) (env1 := (E10 s k (nearT gs c0 c1 c2 c3 c4 c5 c6 c7 c8) (nearT gs' a0 a1 a2 a3 a4 a5 a6 a7 a8) w (some (.val (.str "clear"))) (some (.val (oneT gs c0 c1 c2 c3 c4 c5 c6 c7 c8))) (some (.val (oneT gs' a0 a1 a2 a3 a4 a5 a6 a7 a8))) (some (.val v)) (some (chW v c1 c2 c3 c4 c5 c6 c7 c8)))) (by kernel_rfl) (ss_one (s := Ss.at_ 1 Bin) ?_)
  exact if_no (t_ne (call1 (ev_meth2 (x := (.val (oneT gs c0 c1 c2 c3 c4 c5 c6 c7 c8))) (y := .val (.str "clear")) (z := .val v) rfl rfl rfl rfl (chg0 0 (sgT gs) v hc hv)) (told_ev 2 (sgT gs) v c1 c2 c3 c4 c5 c6 c7 c8)) (call2 (w := .val (.lst (gs.map gT1))) (v := .val (chT v c1 c2 c3 c4 c5 c6 c7 c8)) rfl rfl (due_ev 3 gs hg.glen v c1 c2 c3 c4 c5 c6 c7 c8)) (tld_refl hg ⟨hv, hc.h1, hc.h2, hc.h3, hc.h4, hc.h5, hc.h6, hc.h7, hc.h8⟩))
theorem in1 (v : T) (hv : v ∈ ([.str "first", .str "ahead", .str "late"] : List T)) (o9 : Option W) : evSs G6 (Cl 5) Bin (E10 s k (nearT gs c0 c1 c2 c3 c4 c5 c6 c7 c8) (nearT gs' a0 a1 a2 a3 a4 a5 a6 a7 a8) w (some (.val (.str "flag"))) (some (.val (oneT gs c0 c1 c2 c3 c4 c5 c6 c7 c8))) (some (.val (oneT gs' a0 a1 a2 a3 a4 a5 a6 a7 a8))) (some (.val v)) o9) = .ok .nx (E10 s k (nearT gs c0 c1 c2 c3 c4 c5 c6 c7 c8) (nearT gs' a0 a1 a2 a3 a4 a5 a6 a7 a8) w (some (.val (.str "flag"))) (some (.val (oneT gs c0 c1 c2 c3 c4 c5 c6 c7 c8))) (some (.val (oneT gs' a0 a1 a2 a3 a4 a5 a6 a7 a8))) (some (.val v)) (some (.val (chT c0 v c2 c3 c4 c5 c6 c7 c8)))) := by
  refine ss_step (s := Ss.at_ 0 Bin) (env1 := (E10 s k (nearT gs c0 c1 c2 c3 c4 c5 c6 c7 c8) (nearT gs' a0 a1 a2 a3 a4 a5 a6 a7 a8) w (some (.val (.str "flag"))) (some (.val (oneT gs c0 c1 c2 c3 c4 c5 c6 c7 c8))) (some (.val (oneT gs' a0 a1 a2 a3 a4 a5 a6 a7 a8))) (some (.val v)) (some (chW c0 v c2 c3 c4 c5 c6 c7 c8)))) (by kernel_rfl) (ss_one (s := Ss.at_ 1 Bin) ?_)
  exact if_no (t_ne (call1 (ev_meth2 (x := (.val (oneT gs c0 c1 c2 c3 c4 c5 c6 c7 c8))) (y := .val (.str "flag")) (z := .val v) rfl rfl rfl rfl (chg1 0 (sgT gs) v hc hv)) (told_ev 2 (sgT gs) c0 v c2 c3 c4 c5 c6 c7 c8)) (call2 (w := .val (.lst (gs.map gT1))) (v := .val (chT c0 v c2 c3 c4 c5 c6 c7 c8)) rfl rfl (due_ev 3 gs hg.glen c0 v c2 c3 c4 c5 c6 c7 c8)) (tld_refl hg ⟨hc.h0, hv, hc.h2, hc.h3, hc.h4, hc.h5, hc.h6, hc.h7, hc.h8⟩))
theorem in2 (v : T) (hv : v ∈ ([.str "early", .str "ahead", .str "behind"] : List T)) (o9 : Option W) : evSs G6 (Cl 5) Bin (E10 s k (nearT gs c0 c1 c2 c3 c4 c5 c6 c7 c8) (nearT gs' a0 a1 a2 a3 a4 a5 a6 a7 a8) w (some (.val (.str "unflag"))) (some (.val (oneT gs c0 c1 c2 c3 c4 c5 c6 c7 c8))) (some (.val (oneT gs' a0 a1 a2 a3 a4 a5 a6 a7 a8))) (some (.val v)) o9) = .ok .nx (E10 s k (nearT gs c0 c1 c2 c3 c4 c5 c6 c7 c8) (nearT gs' a0 a1 a2 a3 a4 a5 a6 a7 a8) w (some (.val (.str "unflag"))) (some (.val (oneT gs c0 c1 c2 c3 c4 c5 c6 c7 c8))) (some (.val (oneT gs' a0 a1 a2 a3 a4 a5 a6 a7 a8))) (some (.val v)) (some (.val (chT c0 c1 v c3 c4 c5 c6 c7 c8)))) := by
  refine ss_step (s := Ss.at_ 0 Bin) (env1 := (E10 s k (nearT gs c0 c1 c2 c3 c4 c5 c6 c7 c8) (nearT gs' a0 a1 a2 a3 a4 a5 a6 a7 a8) w (some (.val (.str "unflag"))) (some (.val (oneT gs c0 c1 c2 c3 c4 c5 c6 c7 c8))) (some (.val (oneT gs' a0 a1 a2 a3 a4 a5 a6 a7 a8))) (some (.val v)) (some (chW c0 c1 v c3 c4 c5 c6 c7 c8)))) (by kernel_rfl) (ss_one (s := Ss.at_ 1 Bin) ?_)
  exact if_no (t_ne (call1 (ev_meth2 (x := (.val (oneT gs c0 c1 c2 c3 c4 c5 c6 c7 c8))) (y := .val (.str "unflag")) (z := .val v) rfl rfl rfl rfl (chg2 0 (sgT gs) v hc hv)) (told_ev 2 (sgT gs) c0 c1 v c3 c4 c5 c6 c7 c8)) (call2 (w := .val (.lst (gs.map gT1))) (v := .val (chT c0 c1 v c3 c4 c5 c6 c7 c8)) rfl rfl (due_ev 3 gs hg.glen c0 c1 v c3 c4 c5 c6 c7 c8)) (tld_refl hg ⟨hc.h0, hc.h1, hv, hc.h3, hc.h4, hc.h5, hc.h6, hc.h7, hc.h8⟩))
theorem in3 (v : T) (hv : v ∈ ([.str "any", .str "flagged", .str "both"] : List T)) (o9 : Option W) : evSs G6 (Cl 5) Bin (E10 s k (nearT gs c0 c1 c2 c3 c4 c5 c6 c7 c8) (nearT gs' a0 a1 a2 a3 a4 a5 a6 a7 a8) w (some (.val (.str "start"))) (some (.val (oneT gs c0 c1 c2 c3 c4 c5 c6 c7 c8))) (some (.val (oneT gs' a0 a1 a2 a3 a4 a5 a6 a7 a8))) (some (.val v)) o9) = .ok .nx (E10 s k (nearT gs c0 c1 c2 c3 c4 c5 c6 c7 c8) (nearT gs' a0 a1 a2 a3 a4 a5 a6 a7 a8) w (some (.val (.str "start"))) (some (.val (oneT gs c0 c1 c2 c3 c4 c5 c6 c7 c8))) (some (.val (oneT gs' a0 a1 a2 a3 a4 a5 a6 a7 a8))) (some (.val v)) (some (.val (chT c0 c1 c2 v c4 c5 c6 c7 c8)))) := by
  refine ss_step (s := Ss.at_ 0 Bin) (env1 := (E10 s k (nearT gs c0 c1 c2 c3 c4 c5 c6 c7 c8) (nearT gs' a0 a1 a2 a3 a4 a5 a6 a7 a8) w (some (.val (.str "start"))) (some (.val (oneT gs c0 c1 c2 c3 c4 c5 c6 c7 c8))) (some (.val (oneT gs' a0 a1 a2 a3 a4 a5 a6 a7 a8))) (some (.val v)) (some (chW c0 c1 c2 v c4 c5 c6 c7 c8)))) (by kernel_rfl) (ss_one (s := Ss.at_ 1 Bin) ?_)
  exact if_no (t_ne (call1 (ev_meth2 (x := (.val (oneT gs c0 c1 c2 c3 c4 c5 c6 c7 c8))) (y := .val (.str "start")) (z := .val v) rfl rfl rfl rfl (chg3 0 (sgT gs) v hc hv)) (told_ev 2 (sgT gs) c0 c1 c2 v c4 c5 c6 c7 c8)) (call2 (w := .val (.lst (gs.map gT1))) (v := .val (chT c0 c1 c2 v c4 c5 c6 c7 c8)) rfl rfl (due_ev 3 gs hg.glen c0 c1 c2 v c4 c5 c6 c7 c8)) (tld_refl hg ⟨hc.h0, hc.h1, hc.h2, hv, hc.h4, hc.h5, hc.h6, hc.h7, hc.h8⟩))
theorem in4 (v : T) (hv : v ∈ ([.int 0, .int 1] : List T)) (o9 : Option W) : evSs G6 (Cl 5) Bin (E10 s k (nearT gs c0 c1 c2 c3 c4 c5 c6 c7 c8) (nearT gs' a0 a1 a2 a3 a4 a5 a6 a7 a8) w (some (.val (.str "choice"))) (some (.val (oneT gs c0 c1 c2 c3 c4 c5 c6 c7 c8))) (some (.val (oneT gs' a0 a1 a2 a3 a4 a5 a6 a7 a8))) (some (.val v)) o9) = .ok .nx (E10 s k (nearT gs c0 c1 c2 c3 c4 c5 c6 c7 c8) (nearT gs' a0 a1 a2 a3 a4 a5 a6 a7 a8) w (some (.val (.str "choice"))) (some (.val (oneT gs c0 c1 c2 c3 c4 c5 c6 c7 c8))) (some (.val (oneT gs' a0 a1 a2 a3 a4 a5 a6 a7 a8))) (some (.val v)) (some (.val (chT c0 c1 c2 c3 v c5 c6 c7 c8)))) := by
  refine ss_step (s := Ss.at_ 0 Bin) (env1 := (E10 s k (nearT gs c0 c1 c2 c3 c4 c5 c6 c7 c8) (nearT gs' a0 a1 a2 a3 a4 a5 a6 a7 a8) w (some (.val (.str "choice"))) (some (.val (oneT gs c0 c1 c2 c3 c4 c5 c6 c7 c8))) (some (.val (oneT gs' a0 a1 a2 a3 a4 a5 a6 a7 a8))) (some (.val v)) (some (chW c0 c1 c2 c3 v c5 c6 c7 c8)))) (by kernel_rfl) (ss_one (s := Ss.at_ 1 Bin) ?_)
  exact if_no (t_ne (call1 (ev_meth2 (x := (.val (oneT gs c0 c1 c2 c3 c4 c5 c6 c7 c8))) (y := .val (.str "choice")) (z := .val v) rfl rfl rfl rfl (chg4 0 (sgT gs) v hc hv)) (told_ev 2 (sgT gs) c0 c1 c2 c3 v c5 c6 c7 c8)) (call2 (w := .val (.lst (gs.map gT1))) (v := .val (chT c0 c1 c2 c3 v c5 c6 c7 c8)) rfl rfl (due_ev 3 gs hg.glen c0 c1 c2 c3 v c5 c6 c7 c8)) (tld_refl hg ⟨hc.h0, hc.h1, hc.h2, hc.h3, hv, hc.h5, hc.h6, hc.h7, hc.h8⟩))
theorem in5 (v : T) (hv : v ∈ ([.str "both", .str "source"] : List T)) (o9 : Option W) : evSs G6 (Cl 5) Bin (E10 s k (nearT gs c0 c1 c2 c3 c4 c5 c6 c7 c8) (nearT gs' a0 a1 a2 a3 a4 a5 a6 a7 a8) w (some (.val (.str "copied"))) (some (.val (oneT gs c0 c1 c2 c3 c4 c5 c6 c7 c8))) (some (.val (oneT gs' a0 a1 a2 a3 a4 a5 a6 a7 a8))) (some (.val v)) o9) = .ok .nx (E10 s k (nearT gs c0 c1 c2 c3 c4 c5 c6 c7 c8) (nearT gs' a0 a1 a2 a3 a4 a5 a6 a7 a8) w (some (.val (.str "copied"))) (some (.val (oneT gs c0 c1 c2 c3 c4 c5 c6 c7 c8))) (some (.val (oneT gs' a0 a1 a2 a3 a4 a5 a6 a7 a8))) (some (.val v)) (some (.val (chT c0 c1 c2 c3 c4 v c6 c7 c8)))) := by
  refine ss_step (s := Ss.at_ 0 Bin) (env1 := (E10 s k (nearT gs c0 c1 c2 c3 c4 c5 c6 c7 c8) (nearT gs' a0 a1 a2 a3 a4 a5 a6 a7 a8) w (some (.val (.str "copied"))) (some (.val (oneT gs c0 c1 c2 c3 c4 c5 c6 c7 c8))) (some (.val (oneT gs' a0 a1 a2 a3 a4 a5 a6 a7 a8))) (some (.val v)) (some (chW c0 c1 c2 c3 c4 v c6 c7 c8)))) (by kernel_rfl) (ss_one (s := Ss.at_ 1 Bin) ?_)
  exact if_no (t_ne (call1 (ev_meth2 (x := (.val (oneT gs c0 c1 c2 c3 c4 c5 c6 c7 c8))) (y := .val (.str "copied")) (z := .val v) rfl rfl rfl rfl (chg5 0 (sgT gs) v hc hv)) (told_ev 2 (sgT gs) c0 c1 c2 c3 c4 v c6 c7 c8)) (call2 (w := .val (.lst (gs.map gT1))) (v := .val (chT c0 c1 c2 c3 c4 v c6 c7 c8)) rfl rfl (due_ev 3 gs hg.glen c0 c1 c2 c3 c4 v c6 c7 c8)) (tld_refl hg ⟨hc.h0, hc.h1, hc.h2, hc.h3, hc.h4, hv, hc.h6, hc.h7, hc.h8⟩))
theorem in6 (v : T) (hv : v ∈ ([.str "lock", .str "again", .str "none"] : List T)) (o9 : Option W) : evSs G6 (Cl 5) Bin (E10 s k (nearT gs c0 c1 c2 c3 c4 c5 c6 c7 c8) (nearT gs' a0 a1 a2 a3 a4 a5 a6 a7 a8) w (some (.val (.str "lock"))) (some (.val (oneT gs c0 c1 c2 c3 c4 c5 c6 c7 c8))) (some (.val (oneT gs' a0 a1 a2 a3 a4 a5 a6 a7 a8))) (some (.val v)) o9) = .ok .nx (E10 s k (nearT gs c0 c1 c2 c3 c4 c5 c6 c7 c8) (nearT gs' a0 a1 a2 a3 a4 a5 a6 a7 a8) w (some (.val (.str "lock"))) (some (.val (oneT gs c0 c1 c2 c3 c4 c5 c6 c7 c8))) (some (.val (oneT gs' a0 a1 a2 a3 a4 a5 a6 a7 a8))) (some (.val v)) (some (.val (chT c0 c1 c2 c3 c4 c5 v c7 c8)))) := by
  refine ss_step (s := Ss.at_ 0 Bin) (env1 := (E10 s k (nearT gs c0 c1 c2 c3 c4 c5 c6 c7 c8) (nearT gs' a0 a1 a2 a3 a4 a5 a6 a7 a8) w (some (.val (.str "lock"))) (some (.val (oneT gs c0 c1 c2 c3 c4 c5 c6 c7 c8))) (some (.val (oneT gs' a0 a1 a2 a3 a4 a5 a6 a7 a8))) (some (.val v)) (some (chW c0 c1 c2 c3 c4 c5 v c7 c8)))) (by kernel_rfl) (ss_one (s := Ss.at_ 1 Bin) ?_)
  exact if_no (t_ne (call1 (ev_meth2 (x := (.val (oneT gs c0 c1 c2 c3 c4 c5 c6 c7 c8))) (y := .val (.str "lock")) (z := .val v) rfl rfl rfl rfl (chg6 0 (sgT gs) v hc hv)) (told_ev 2 (sgT gs) c0 c1 c2 c3 c4 c5 v c7 c8)) (call2 (w := .val (.lst (gs.map gT1))) (v := .val (chT c0 c1 c2 c3 c4 c5 v c7 c8)) rfl rfl (due_ev 3 gs hg.glen c0 c1 c2 c3 c4 c5 v c7 c8)) (tld_refl hg ⟨hc.h0, hc.h1, hc.h2, hc.h3, hc.h4, hc.h5, hv, hc.h7, hc.h8⟩))
theorem in7 (v : T) (hv : v ∈ ([.bl true, .bl false] : List T)) (o9 : Option W) : evSs G6 (Cl 5) Bin (E10 s k (nearT gs c0 c1 c2 c3 c4 c5 c6 c7 c8) (nearT gs' a0 a1 a2 a3 a4 a5 a6 a7 a8) w (some (.val (.str "held"))) (some (.val (oneT gs c0 c1 c2 c3 c4 c5 c6 c7 c8))) (some (.val (oneT gs' a0 a1 a2 a3 a4 a5 a6 a7 a8))) (some (.val v)) o9) = .ok .nx (E10 s k (nearT gs c0 c1 c2 c3 c4 c5 c6 c7 c8) (nearT gs' a0 a1 a2 a3 a4 a5 a6 a7 a8) w (some (.val (.str "held"))) (some (.val (oneT gs c0 c1 c2 c3 c4 c5 c6 c7 c8))) (some (.val (oneT gs' a0 a1 a2 a3 a4 a5 a6 a7 a8))) (some (.val v)) (some (.val (chT c0 c1 c2 c3 c4 c5 c6 v c8)))) := by
  refine ss_step (s := Ss.at_ 0 Bin) (env1 := (E10 s k (nearT gs c0 c1 c2 c3 c4 c5 c6 c7 c8) (nearT gs' a0 a1 a2 a3 a4 a5 a6 a7 a8) w (some (.val (.str "held"))) (some (.val (oneT gs c0 c1 c2 c3 c4 c5 c6 c7 c8))) (some (.val (oneT gs' a0 a1 a2 a3 a4 a5 a6 a7 a8))) (some (.val v)) (some (chW c0 c1 c2 c3 c4 c5 c6 v c8)))) (by kernel_rfl) (ss_one (s := Ss.at_ 1 Bin) ?_)
  exact if_no (t_ne (call1 (ev_meth2 (x := (.val (oneT gs c0 c1 c2 c3 c4 c5 c6 c7 c8))) (y := .val (.str "held")) (z := .val v) rfl rfl rfl rfl (chg7 0 (sgT gs) v hc hv)) (told_ev 2 (sgT gs) c0 c1 c2 c3 c4 c5 c6 v c8)) (call2 (w := .val (.lst (gs.map gT1))) (v := .val (chT c0 c1 c2 c3 c4 c5 c6 v c8)) rfl rfl (due_ev 3 gs hg.glen c0 c1 c2 c3 c4 c5 c6 v c8)) (tld_refl hg ⟨hc.h0, hc.h1, hc.h2, hc.h3, hc.h4, hc.h5, hc.h6, hv, hc.h8⟩))
theorem in8 (v : T) (hv : v ∈ ([.str "source", .str "any"] : List T)) (o9 : Option W) : evSs G6 (Cl 5) Bin (E10 s k (nearT gs c0 c1 c2 c3 c4 c5 c6 c7 c8) (nearT gs' a0 a1 a2 a3 a4 a5 a6 a7 a8) w (some (.val (.str "read"))) (some (.val (oneT gs c0 c1 c2 c3 c4 c5 c6 c7 c8))) (some (.val (oneT gs' a0 a1 a2 a3 a4 a5 a6 a7 a8))) (some (.val v)) o9) = .ok .nx (E10 s k (nearT gs c0 c1 c2 c3 c4 c5 c6 c7 c8) (nearT gs' a0 a1 a2 a3 a4 a5 a6 a7 a8) w (some (.val (.str "read"))) (some (.val (oneT gs c0 c1 c2 c3 c4 c5 c6 c7 c8))) (some (.val (oneT gs' a0 a1 a2 a3 a4 a5 a6 a7 a8))) (some (.val v)) (some (.val (chT c0 c1 c2 c3 c4 c5 c6 c7 v)))) := by
  refine ss_step (s := Ss.at_ 0 Bin) (env1 := (E10 s k (nearT gs c0 c1 c2 c3 c4 c5 c6 c7 c8) (nearT gs' a0 a1 a2 a3 a4 a5 a6 a7 a8) w (some (.val (.str "read"))) (some (.val (oneT gs c0 c1 c2 c3 c4 c5 c6 c7 c8))) (some (.val (oneT gs' a0 a1 a2 a3 a4 a5 a6 a7 a8))) (some (.val v)) (some (chW c0 c1 c2 c3 c4 c5 c6 c7 v)))) (by kernel_rfl) (ss_one (s := Ss.at_ 1 Bin) ?_)
  exact if_no (t_ne (call1 (ev_meth2 (x := (.val (oneT gs c0 c1 c2 c3 c4 c5 c6 c7 c8))) (y := .val (.str "read")) (z := .val v) rfl rfl rfl rfl (chg8 0 (sgT gs) v hc hv)) (told_ev 2 (sgT gs) c0 c1 c2 c3 c4 c5 c6 c7 v)) (call2 (w := .val (.lst (gs.map gT1))) (v := .val (chT c0 c1 c2 c3 c4 c5 c6 c7 v)) rfl rfl (due_ev 3 gs hg.glen c0 c1 c2 c3 c4 c5 c6 c7 v)) (tld_refl hg ⟨hc.h0, hc.h1, hc.h2, hc.h3, hc.h4, hc.h5, hc.h6, hc.h7, hv⟩))
def PE (s k : T) (w : W) (n f : T) (x y : Option W) (env : Ev.Env) : Prop := ∃ o5 o8 o9, env = E10 s k n f w o5 x y o8 o9
def PE5 (s k : T) (w : W) (n f : T) (o5 x y : Option W) (env : Ev.Env) : Prop := ∃ o8 o9, env = E10 s k n f w o5 x y o8 o9
theorem s10 (o5 o8 o9 : Option W) : ∃ env', evS G6 (Cl 5) (Ss.at_ 10 B29) (E10 s k (nearT gs c0 c1 c2 c3 c4 c5 c6 c7 c8) (nearT gs' a0 a1 a2 a3 a4 a5 a6 a7 a8) w o5 (some (.val (oneT gs c0 c1 c2 c3 c4 c5 c6 c7 c8))) (some (.val (oneT gs' a0 a1 a2 a3 a4 a5 a6 a7 a8))) o8 o9) = .ok .nx env' ∧ PE s k w (nearT gs c0 c1 c2 c3 c4 c5 c6 c7 c8) (nearT gs' a0 a1 a2 a3 a4 a5 a6 a7 a8) (some (.val (oneT gs c0 c1 c2 c3 c4 c5 c6 c7 c8))) (some (.val (oneT gs' a0 a1 a2 a3 a4 a5 a6 a7 a8))) env' := by
  refine for_inv (tg := .var 5) (it := .keys (.call 25 .nil [])) (ts := nm9.map .str) (env1 := (E10 s k (nearT gs c0 c1 c2 c3 c4 c5 c6 c7 c8) (nearT gs' a0 a1 a2 a3 a4 a5 a6 a7 a8) w o5 (some (.val (oneT gs c0 c1 c2 c3 c4 c5 c6 c7 c8))) (some (.val (oneT gs' a0 a1 a2 a3 a4 a5 a6 a7 a8))) o8 o9)) (by kernel_rfl) ⟨_, _, _, rfl⟩ ?_
  rintro t ht env ⟨o5, o8, o9, rfl⟩
  refine ⟨(E10 s k (nearT gs c0 c1 c2 c3 c4 c5 c6 c7 c8) (nearT gs' a0 a1 a2 a3 a4 a5 a6 a7 a8) w (some (.val t)) (some (.val (oneT gs c0 c1 c2 c3 c4 c5 c6 c7 c8))) (some (.val (oneT gs' a0 a1 a2 a3 a4 a5 a6 a7 a8))) o8 o9), rfl, ?_⟩
  simp only [nm9, List.map_cons, List.map_nil, List.mem_cons, List.not_mem_nil, or_false] at ht
  rcases ht with rfl | rfl | rfl | rfl | rfl | rfl | rfl | rfl | rfl
  · obtain ⟨env', e, o8', o9', rfl⟩ := for_inv (G := G6) (C := Cl 5) (tg := .var 8) (it := .e (.ix (.call 25 .nil []) (.rd 5))) (b := Bin) (env := (E10 s k (nearT gs c0 c1 c2 c3 c4 c5 c6 c7 c8) (nearT gs' a0 a1 a2 a3 a4 a5 a6 a7 a8) w (some (.val (.str "clear"))) (some (.val (oneT gs c0 c1 c2 c3 c4 c5 c6 c7 c8))) (some (.val (oneT gs' a0 a1 a2 a3 a4 a5 a6 a7 a8))) o8 o9)) (env1 := (E10 s k (nearT gs c0 c1 c2 c3 c4 c5 c6 c7 c8) (nearT gs' a0 a1 a2 a3 a4 a5 a6 a7 a8) w (some (.val (.str "clear"))) (some (.val (oneT gs c0 c1 c2 c3 c4 c5 c6 c7 c8))) (some (.val (oneT gs' a0 a1 a2 a3 a4 a5 a6 a7 a8))) o8 o9)) (ts := [.str "quiet", .str "any"]) (P := PE5 s k w (nearT gs c0 c1 c2 c3 c4 c5 c6 c7 c8) (nearT gs' a0 a1 a2 a3 a4 a5 a6 a7 a8) (some (.val (.str "clear"))) (some (.val (oneT gs c0 c1 c2 c3 c4 c5 c6 c7 c8))) (some (.val (oneT gs' a0 a1 a2 a3 a4 a5 a6 a7 a8)))) (by kernel_rfl) ⟨_, _, rfl⟩ (by
      rintro v hv env ⟨o8, o9, rfl⟩
      exact ⟨(E10 s k (nearT gs c0 c1 c2 c3 c4 c5 c6 c7 c8) (nearT gs' a0 a1 a2 a3 a4 a5 a6 a7 a8) w (some (.val (.str "clear"))) (some (.val (oneT gs c0 c1 c2 c3 c4 c5 c6 c7 c8))) (some (.val (oneT gs' a0 a1 a2 a3 a4 a5 a6 a7 a8))) (some (.val v)) o9), rfl, _, in0 hg hg' hc ha v hv o9, _, _, rfl⟩)
    exact ⟨_, ss_one e, _, _, _, rfl⟩
  · obtain ⟨env', e, o8', o9', rfl⟩ := for_inv (G := G6) (C := Cl 5) (tg := .var 8) (it := .e (.ix (.call 25 .nil []) (.rd 5))) (b := Bin) (env := (E10 s k (nearT gs c0 c1 c2 c3 c4 c5 c6 c7 c8) (nearT gs' a0 a1 a2 a3 a4 a5 a6 a7 a8) w (some (.val (.str "flag"))) (some (.val (oneT gs c0 c1 c2 c3 c4 c5 c6 c7 c8))) (some (.val (oneT gs' a0 a1 a2 a3 a4 a5 a6 a7 a8))) o8 o9)) (env1 := (E10 s k (nearT gs c0 c1 c2 c3 c4 c5 c6 c7 c8) (nearT gs' a0 a1 a2 a3 a4 a5 a6 a7 a8) w (some (.val (.str "flag"))) (some (.val (oneT gs c0 c1 c2 c3 c4 c5 c6 c7 c8))) (some (.val (oneT gs' a0 a1 a2 a3 a4 a5 a6 a7 a8))) o8 o9)) (ts := [.str "first", .str "ahead", .str "late"]) (P := PE5 s k w (nearT gs c0 c1 c2 c3 c4 c5 c6 c7 c8) (nearT gs' a0 a1 a2 a3 a4 a5 a6 a7 a8) (some (.val (.str "flag"))) (some (.val (oneT gs c0 c1 c2 c3 c4 c5 c6 c7 c8))) (some (.val (oneT gs' a0 a1 a2 a3 a4 a5 a6 a7 a8)))) (by kernel_rfl) ⟨_, _, rfl⟩ (by
      rintro v hv env ⟨o8, o9, rfl⟩
      exact ⟨(E10 s k (nearT gs c0 c1 c2 c3 c4 c5 c6 c7 c8) (nearT gs' a0 a1 a2 a3 a4 a5 a6 a7 a8) w (some (.val (.str "flag"))) (some (.val (oneT gs c0 c1 c2 c3 c4 c5 c6 c7 c8))) (some (.val (oneT gs' a0 a1 a2 a3 a4 a5 a6 a7 a8))) (some (.val v)) o9), rfl, _, in1 hg hg' hc ha v hv o9, _, _, rfl⟩)
    exact ⟨_, ss_one e, _, _, _, rfl⟩
  · obtain ⟨env', e, o8', o9', rfl⟩ := for_inv (G := G6) (C := Cl 5) (tg := .var 8) (it := .e (.ix (.call 25 .nil []) (.rd 5))) (b := Bin) (env := (E10 s k (nearT gs c0 c1 c2 c3 c4 c5 c6 c7 c8) (nearT gs' a0 a1 a2 a3 a4 a5 a6 a7 a8) w (some (.val (.str "unflag"))) (some (.val (oneT gs c0 c1 c2 c3 c4 c5 c6 c7 c8))) (some (.val (oneT gs' a0 a1 a2 a3 a4 a5 a6 a7 a8))) o8 o9)) (env1 := (E10 s k (nearT gs c0 c1 c2 c3 c4 c5 c6 c7 c8) (nearT gs' a0 a1 a2 a3 a4 a5 a6 a7 a8) w (some (.val (.str "unflag"))) (some (.val (oneT gs c0 c1 c2 c3 c4 c5 c6 c7 c8))) (some (.val (oneT gs' a0 a1 a2 a3 a4 a5 a6 a7 a8))) o8 o9)) (ts := [.str "early", .str "ahead", .str "behind"]) (P := PE5 s k w (nearT gs c0 c1 c2 c3 c4 c5 c6 c7 c8) (nearT gs' a0 a1 a2 a3 a4 a5 a6 a7 a8) (some (.val (.str "unflag"))) (some (.val (oneT gs c0 c1 c2 c3 c4 c5 c6 c7 c8))) (some (.val (oneT gs' a0 a1 a2 a3 a4 a5 a6 a7 a8)))) (by kernel_rfl) ⟨_, _, rfl⟩ (by
      rintro v hv env ⟨o8, o9, rfl⟩
      exact ⟨(E10 s k (nearT gs c0 c1 c2 c3 c4 c5 c6 c7 c8) (nearT gs' a0 a1 a2 a3 a4 a5 a6 a7 a8) w (some (.val (.str "unflag"))) (some (.val (oneT gs c0 c1 c2 c3 c4 c5 c6 c7 c8))) (some (.val (oneT gs' a0 a1 a2 a3 a4 a5 a6 a7 a8))) (some (.val v)) o9), rfl, _, in2 hg hg' hc ha v hv o9, _, _, rfl⟩)
    exact ⟨_, ss_one e, _, _, _, rfl⟩
  · obtain ⟨env', e, o8', o9', rfl⟩ := for_inv (G := G6) (C := Cl 5) (tg := .var 8) (it := .e (.ix (.call 25 .nil []) (.rd 5))) (b := Bin) (env := (E10 s k (nearT gs c0 c1 c2 c3 c4 c5 c6 c7 c8) (nearT gs' a0 a1 a2 a3 a4 a5 a6 a7 a8) w (some (.val (.str "start"))) (some (.val (oneT gs c0 c1 c2 c3 c4 c5 c6 c7 c8))) (some (.val (oneT gs' a0 a1 a2 a3 a4 a5 a6 a7 a8))) o8 o9)) (env1 := (E10 s k (nearT gs c0 c1 c2 c3 c4 c5 c6 c7 c8) (nearT gs' a0 a1 a2 a3 a4 a5 a6 a7 a8) w (some (.val (.str "start"))) (some (.val (oneT gs c0 c1 c2 c3 c4 c5 c6 c7 c8))) (some (.val (oneT gs' a0 a1 a2 a3 a4 a5 a6 a7 a8))) o8 o9)) (ts := [.str "any", .str "flagged", .str "both"]) (P := PE5 s k w (nearT gs c0 c1 c2 c3 c4 c5 c6 c7 c8) (nearT gs' a0 a1 a2 a3 a4 a5 a6 a7 a8) (some (.val (.str "start"))) (some (.val (oneT gs c0 c1 c2 c3 c4 c5 c6 c7 c8))) (some (.val (oneT gs' a0 a1 a2 a3 a4 a5 a6 a7 a8)))) (by kernel_rfl) ⟨_, _, rfl⟩ (by
      rintro v hv env ⟨o8, o9, rfl⟩
      exact ⟨(E10 s k (nearT gs c0 c1 c2 c3 c4 c5 c6 c7 c8) (nearT gs' a0 a1 a2 a3 a4 a5 a6 a7 a8) w (some (.val (.str "start"))) (some (.val (oneT gs c0 c1 c2 c3 c4 c5 c6 c7 c8))) (some (.val (oneT gs' a0 a1 a2 a3 a4 a5 a6 a7 a8))) (some (.val v)) o9), rfl, _, in3 hg hg' hc ha v hv o9, _, _, rfl⟩)
    exact ⟨_, ss_one e, _, _, _, rfl⟩
  · obtain ⟨env', e, o8', o9', rfl⟩ := for_inv (G := G6) (C := Cl 5) (tg := .var 8) (it := .e (.ix (.call 25 .nil []) (.rd 5))) (b := Bin) (env := (E10 s k (nearT gs c0 c1 c2 c3 c4 c5 c6 c7 c8) (nearT gs' a0 a1 a2 a3 a4 a5 a6 a7 a8) w (some (.val (.str "choice"))) (some (.val (oneT gs c0 c1 c2 c3 c4 c5 c6 c7 c8))) (some (.val (oneT gs' a0 a1 a2 a3 a4 a5 a6 a7 a8))) o8 o9)) (env1 := (E10 s k (nearT gs c0 c1 c2 c3 c4 c5 c6 c7 c8) (nearT gs' a0 a1 a2 a3 a4 a5 a6 a7 a8) w (some (.val (.str "choice"))) (some (.val (oneT gs c0 c1 c2 c3 c4 c5 c6 c7 c8))) (some (.val (oneT gs' a0 a1 a2 a3 a4 a5 a6 a7 a8))) o8 o9)) (ts := [.int 0, .int 1]) (P := PE5 s k w (nearT gs c0 c1 c2 c3 c4 c5 c6 c7 c8) (nearT gs' a0 a1 a2 a3 a4 a5 a6 a7 a8) (some (.val (.str "choice"))) (some (.val (oneT gs c0 c1 c2 c3 c4 c5 c6 c7 c8))) (some (.val (oneT gs' a0 a1 a2 a3 a4 a5 a6 a7 a8)))) (by kernel_rfl) ⟨_, _, rfl⟩ (by
      rintro v hv env ⟨o8, o9, rfl⟩
      exact ⟨(E10 s k (nearT gs c0 c1 c2 c3 c4 c5 c6 c7 c8) (nearT gs' a0 a1 a2 a3 a4 a5 a6 a7 a8) w (some (.val (.str "choice"))) (some (.val (oneT gs c0 c1 c2 c3 c4 c5 c6 c7 c8))) (some (.val (oneT gs' a0 a1 a2 a3 a4 a5 a6 a7 a8))) (some (.val v)) o9), rfl, _, in4 hg hg' hc ha v hv o9, _, _, rfl⟩)
    exact ⟨_, ss_one e, _, _, _, rfl⟩
  · obtain ⟨env', e, o8', o9', rfl⟩ := for_inv (G := G6) (C := Cl 5) (tg := .var 8) (it := .e (.ix (.call 25 .nil []) (.rd 5))) (b := Bin) (env := (E10 s k (nearT gs c0 c1 c2 c3 c4 c5 c6 c7 c8) (nearT gs' a0 a1 a2 a3 a4 a5 a6 a7 a8) w (some (.val (.str "copied"))) (some (.val (oneT gs c0 c1 c2 c3 c4 c5 c6 c7 c8))) (some (.val (oneT gs' a0 a1 a2 a3 a4 a5 a6 a7 a8))) o8 o9)) (env1 := (E10 s k (nearT gs c0 c1 c2 c3 c4 c5 c6 c7 c8) (nearT gs' a0 a1 a2 a3 a4 a5 a6 a7 a8) w (some (.val (.str "copied"))) (some (.val (oneT gs c0 c1 c2 c3 c4 c5 c6 c7 c8))) (some (.val (oneT gs' a0 a1 a2 a3 a4 a5 a6 a7 a8))) o8 o9)) (ts := [.str "both", .str "source"]) (P := PE5 s k w (nearT gs c0 c1 c2 c3 c4 c5 c6 c7 c8) (nearT gs' a0 a1 a2 a3 a4 a5 a6 a7 a8) (some (.val (.str "copied"))) (some (.val (oneT gs c0 c1 c2 c3 c4 c5 c6 c7 c8))) (some (.val (oneT gs' a0 a1 a2 a3 a4 a5 a6 a7 a8)))) (by kernel_rfl) ⟨_, _, rfl⟩ (by
      rintro v hv env ⟨o8, o9, rfl⟩
      exact ⟨(E10 s k (nearT gs c0 c1 c2 c3 c4 c5 c6 c7 c8) (nearT gs' a0 a1 a2 a3 a4 a5 a6 a7 a8) w (some (.val (.str "copied"))) (some (.val (oneT gs c0 c1 c2 c3 c4 c5 c6 c7 c8))) (some (.val (oneT gs' a0 a1 a2 a3 a4 a5 a6 a7 a8))) (some (.val v)) o9), rfl, _, in5 hg hg' hc ha v hv o9, _, _, rfl⟩)
    exact ⟨_, ss_one e, _, _, _, rfl⟩
  · obtain ⟨env', e, o8', o9', rfl⟩ := for_inv (G := G6) (C := Cl 5) (tg := .var 8) (it := .e (.ix (.call 25 .nil []) (.rd 5))) (b := Bin) (env := (E10 s k (nearT gs c0 c1 c2 c3 c4 c5 c6 c7 c8) (nearT gs' a0 a1 a2 a3 a4 a5 a6 a7 a8) w (some (.val (.str "lock"))) (some (.val (oneT gs c0 c1 c2 c3 c4 c5 c6 c7 c8))) (some (.val (oneT gs' a0 a1 a2 a3 a4 a5 a6 a7 a8))) o8 o9)) (env1 := (E10 s k (nearT gs c0 c1 c2 c3 c4 c5 c6 c7 c8) (nearT gs' a0 a1 a2 a3 a4 a5 a6 a7 a8) w (some (.val (.str "lock"))) (some (.val (oneT gs c0 c1 c2 c3 c4 c5 c6 c7 c8))) (some (.val (oneT gs' a0 a1 a2 a3 a4 a5 a6 a7 a8))) o8 o9)) (ts := [.str "lock", .str "again", .str "none"]) (P := PE5 s k w (nearT gs c0 c1 c2 c3 c4 c5 c6 c7 c8) (nearT gs' a0 a1 a2 a3 a4 a5 a6 a7 a8) (some (.val (.str "lock"))) (some (.val (oneT gs c0 c1 c2 c3 c4 c5 c6 c7 c8))) (some (.val (oneT gs' a0 a1 a2 a3 a4 a5 a6 a7 a8)))) (by kernel_rfl) ⟨_, _, rfl⟩ (by
      rintro v hv env ⟨o8, o9, rfl⟩
      exact ⟨(E10 s k (nearT gs c0 c1 c2 c3 c4 c5 c6 c7 c8) (nearT gs' a0 a1 a2 a3 a4 a5 a6 a7 a8) w (some (.val (.str "lock"))) (some (.val (oneT gs c0 c1 c2 c3 c4 c5 c6 c7 c8))) (some (.val (oneT gs' a0 a1 a2 a3 a4 a5 a6 a7 a8))) (some (.val v)) o9), rfl, _, in6 hg hg' hc ha v hv o9, _, _, rfl⟩)
    exact ⟨_, ss_one e, _, _, _, rfl⟩
  · obtain ⟨env', e, o8', o9', rfl⟩ := for_inv (G := G6) (C := Cl 5) (tg := .var 8) (it := .e (.ix (.call 25 .nil []) (.rd 5))) (b := Bin) (env := (E10 s k (nearT gs c0 c1 c2 c3 c4 c5 c6 c7 c8) (nearT gs' a0 a1 a2 a3 a4 a5 a6 a7 a8) w (some (.val (.str "held"))) (some (.val (oneT gs c0 c1 c2 c3 c4 c5 c6 c7 c8))) (some (.val (oneT gs' a0 a1 a2 a3 a4 a5 a6 a7 a8))) o8 o9)) (env1 := (E10 s k (nearT gs c0 c1 c2 c3 c4 c5 c6 c7 c8) (nearT gs' a0 a1 a2 a3 a4 a5 a6 a7 a8) w (some (.val (.str "held"))) (some (.val (oneT gs c0 c1 c2 c3 c4 c5 c6 c7 c8))) (some (.val (oneT gs' a0 a1 a2 a3 a4 a5 a6 a7 a8))) o8 o9)) (ts := [.bl true, .bl false]) (P := PE5 s k w (nearT gs c0 c1 c2 c3 c4 c5 c6 c7 c8) (nearT gs' a0 a1 a2 a3 a4 a5 a6 a7 a8) (some (.val (.str "held"))) (some (.val (oneT gs c0 c1 c2 c3 c4 c5 c6 c7 c8))) (some (.val (oneT gs' a0 a1 a2 a3 a4 a5 a6 a7 a8)))) (by kernel_rfl) ⟨_, _, rfl⟩ (by
      rintro v hv env ⟨o8, o9, rfl⟩
      exact ⟨(E10 s k (nearT gs c0 c1 c2 c3 c4 c5 c6 c7 c8) (nearT gs' a0 a1 a2 a3 a4 a5 a6 a7 a8) w (some (.val (.str "held"))) (some (.val (oneT gs c0 c1 c2 c3 c4 c5 c6 c7 c8))) (some (.val (oneT gs' a0 a1 a2 a3 a4 a5 a6 a7 a8))) (some (.val v)) o9), rfl, _, in7 hg hg' hc ha v hv o9, _, _, rfl⟩)
    exact ⟨_, ss_one e, _, _, _, rfl⟩
  · obtain ⟨env', e, o8', o9', rfl⟩ := for_inv (G := G6) (C := Cl 5) (tg := .var 8) (it := .e (.ix (.call 25 .nil []) (.rd 5))) (b := Bin) (env := (E10 s k (nearT gs c0 c1 c2 c3 c4 c5 c6 c7 c8) (nearT gs' a0 a1 a2 a3 a4 a5 a6 a7 a8) w (some (.val (.str "read"))) (some (.val (oneT gs c0 c1 c2 c3 c4 c5 c6 c7 c8))) (some (.val (oneT gs' a0 a1 a2 a3 a4 a5 a6 a7 a8))) o8 o9)) (env1 := (E10 s k (nearT gs c0 c1 c2 c3 c4 c5 c6 c7 c8) (nearT gs' a0 a1 a2 a3 a4 a5 a6 a7 a8) w (some (.val (.str "read"))) (some (.val (oneT gs c0 c1 c2 c3 c4 c5 c6 c7 c8))) (some (.val (oneT gs' a0 a1 a2 a3 a4 a5 a6 a7 a8))) o8 o9)) (ts := [.str "source", .str "any"]) (P := PE5 s k w (nearT gs c0 c1 c2 c3 c4 c5 c6 c7 c8) (nearT gs' a0 a1 a2 a3 a4 a5 a6 a7 a8) (some (.val (.str "read"))) (some (.val (oneT gs c0 c1 c2 c3 c4 c5 c6 c7 c8))) (some (.val (oneT gs' a0 a1 a2 a3 a4 a5 a6 a7 a8)))) (by kernel_rfl) ⟨_, _, rfl⟩ (by
      rintro v hv env ⟨o8, o9, rfl⟩
      exact ⟨(E10 s k (nearT gs c0 c1 c2 c3 c4 c5 c6 c7 c8) (nearT gs' a0 a1 a2 a3 a4 a5 a6 a7 a8) w (some (.val (.str "read"))) (some (.val (oneT gs c0 c1 c2 c3 c4 c5 c6 c7 c8))) (some (.val (oneT gs' a0 a1 a2 a3 a4 a5 a6 a7 a8))) (some (.val v)) o9), rfl, _, in8 hg hg' hc ha v hv o9, _, _, rfl⟩)
    exact ⟨_, ss_one e, _, _, _, rfl⟩
/-- all that is asked of two rules -/
theorem asked (o5 o8 o9 : Option W) : ∃ env', evSs G6 (Cl 5) (Ss.from_ 4 B29) (E10 s k (nearT gs c0 c1 c2 c3 c4 c5 c6 c7 c8) (nearT gs' a0 a1 a2 a3 a4 a5 a6 a7 a8) w o5 (some (rulW (planT (sgT gs)) c0 c1 c2 c3 c4 c5 c6 c7 c8)) (some (rulW (planT (sgT gs')) a0 a1 a2 a3 a4 a5 a6 a7 a8)) o8 o9) = .ok .nx env' ∧ PE s k w (nearT gs c0 c1 c2 c3 c4 c5 c6 c7 c8) (nearT gs' a0 a1 a2 a3 a4 a5 a6 a7 a8) (some (.val (oneT gs c0 c1 c2 c3 c4 c5 c6 c7 c8))) (some (.val (oneT gs' a0 a1 a2 a3 a4 a5 a6 a7 a8))) env' := by
  obtain ⟨env', e, o5', o8', o9', rfl⟩ := s10 (s := s) (k := k) (w := w) hg hg' hc ha o5 o8 o9
  refine ⟨_, ?_, o5', o8', o9', rfl⟩
  refine ss_step (s := Ss.at_ 4 B29) (s4 hg hg' hc ha o5 o8 o9) ?_
  refine ss_step (s := Ss.at_ 5 B29) (s5 hg hg' hc ha o5 o8 o9) ?_
  refine ss_step (s := Ss.at_ 6 B29) (s6 hg hg' hc ha o5 o8 o9) ?_
  refine ss_step (s := Ss.at_ 7 B29) (s7 hg hg' hc ha o5 o8 o9) ?_
  refine ss_step (s := Ss.at_ 8 B29) (s8 hg hg' hc ha o5 o8 o9) ?_
  refine ss_step (s := Ss.at_ 9 B29) (s9 hg hg' hc ha o5 o8 o9) ?_
  refine ss_step (s := Ss.at_ 10 B29) e ?_
  refine ss_step (s := Ss.at_ 11 B29) (s11 hg hg' hc ha o5' o8' o9') ?_
  refine ss_step (s := Ss.at_ 12 B29) (s12 hg hg' hc ha o5' o8' o9') ?_
  refine ss_step (s := Ss.at_ 13 B29) (s13 hg hg' hc ha o5' o8' o9') ?_
  exact ss_one (s := Ss.at_ 14 B29) (s14 hg hg' hc ha o5' o8' o9')
/-- the rules are made -/
theorem s3 (o5 o6 o7 o8 o9 : Option W) (W3 W4 : W) (h3 : W3.fz = (nearT gs c0 c1 c2 c3 c4 c5 c6 c7 c8)) (h4 : W4.fz = (nearT gs' a0 a1 a2 a3 a4 a5 a6 a7 a8)) : evS G6 (Cl 5) (Ss.at_ 3 B29) [some (.val s), some (.val k), some w, some W3, some W4, o5, o6, o7, o8, o9] = .ok .nx (E10 s k (nearT gs c0 c1 c2 c3 c4 c5 c6 c7 c8) (nearT gs' a0 a1 a2 a3 a4 a5 a6 a7 a8) w o5 (some (rulW (planT (sgT gs)) c0 c1 c2 c3 c4 c5 c6 c7 c8)) (some (rulW (planT (sgT gs')) a0 a1 a2 a3 a4 a5 a6 a7 a8)) o8 o9) := by
  have r1 := rules_ev 0 gs hg c0 c1 c2 c3 c4 c5 c6 c7 c8 hc
  have r2 := rules_ev 0 gs' hg' a0 a1 a2 a3 a4 a5 a6 a7 a8 ha
  have x1 : evE G6 (Cl 5) (.call 28 (.cons (.ix (.rd 3) (.int 0)) (.cons (.ix (.rd 3) (.int 1)) .nil)) []) [some (.val s), some (.val k), some w, some W3, some W4, o5, o6, o7, o8, o9] = .ok (rulW (planT (sgT gs)) c0 c1 c2 c3 c4 c5 c6 c7 c8) [some (.val s), some (.val k), some w, some (.val (nearT gs c0 c1 c2 c3 c4 c5 c6 c7 c8)), some W4, o5, o6, o7, o8, o9] := by
    refine call2 (w := .val (.lst (gs.map gT1))) (v := .val (chT c0 c1 c2 c3 c4 c5 c6 c7 c8)) (e1 := [some (.val s), some (.val k), some w, some (.val (nearT gs c0 c1 c2 c3 c4 c5 c6 c7 c8)), some W4, o5, o6, o7, o8, o9]) ?_ rfl r1
    rw [qE_ix, rd_any (w := W3) rfl, h3]
    rfl
  have x2 : evE G6 (Cl 5) (.call 28 (.cons (.ix (.rd 4) (.int 0)) (.cons (.ix (.rd 4) (.int 1)) .nil)) []) [some (.val s), some (.val k), some w, some (.val (nearT gs c0 c1 c2 c3 c4 c5 c6 c7 c8)), some W4, o5, o6, o7, o8, o9] = .ok (rulW (planT (sgT gs')) a0 a1 a2 a3 a4 a5 a6 a7 a8) [some (.val s), some (.val k), some w, some (.val (nearT gs c0 c1 c2 c3 c4 c5 c6 c7 c8)), some (.val (nearT gs' a0 a1 a2 a3 a4 a5 a6 a7 a8)), o5, o6, o7, o8, o9] := by
    refine call2 (w := .val (.lst (gs'.map gT1))) (v := .val (chT a0 a1 a2 a3 a4 a5 a6 a7 a8)) (e1 := [some (.val s), some (.val k), some w, some (.val (nearT gs c0 c1 c2 c3 c4 c5 c6 c7 c8)), some (.val (nearT gs' a0 a1 a2 a3 a4 a5 a6 a7 a8)), o5, o6, o7, o8, o9]) ?_ rfl r2
    rw [qE_ix, rd_any (w := W4) rfl, h4]
    rfl
  show ((evEs G6 (Cl 5) (.cons (.call 28 (.cons (.ix (.rd 3) (.int 0)) (.cons (.ix (.rd 3) (.int 1)) .nil)) []) (.cons (.call 28 (.cons (.ix (.rd 4) (.int 0)) (.cons (.ix (.rd 4) (.int 1)) .nil)) []) .nil)) _).bind _) = _
  rw [qEs_cons, x1]
  show (((evEs G6 (Cl 5) (.cons (.call 28 (.cons (.ix (.rd 4) (.int 0)) (.cons (.ix (.rd 4) (.int 1)) .nil)) []) .nil) _).bind _).bind _) = _
  rw [qEs_cons, x2]
  rfl
end
/-- one turn -/
def PL (ns : List Int) (env : Ev.Env) : Prop := ∃ o1 o2 o3 o4 o5 o6 o7 o8 o9, env = [some (.val (.scr ns)), o1, o2, o3, o4, o5, o6, o7, o8, o9]
theorem near_fz {gs : List (List Str)} {c0 c1 c2 c3 c4 c5 c6 c7 c8 : T} : (W.lst [.lst (gs.map fun g => .val (gT1 g)), chW c0 c1 c2 c3 c4 c5 c6 c7 c8]).fz = nearT gs c0 c1 c2 c3 c4 c5 c6 c7 c8 := by
  show T.lst [T.lst (fzs (gs.map fun g => W.val (gT1 g))), chT c0 c1 c2 c3 c4 c5 c6 c7 c8] = _
  rw [fzs_map]
  rfl
theorem turn (ns : List Int) (i : Int) (h0 : 0 ≤ i) (h1 : i ≤ 100) (env : Ev.Env) (hp : PL ns env) : ∃ env1, tgE (.var 1) (.int i) env = some env1 ∧ ∃ env2, evSs G6 (Cl 5) B29 env1 = .ok .nx env2 ∧ PL ns env2 := by
  obtain ⟨o1, o2, o3, o4, o5, o6, o7, o8, o9, rfl⟩ := hp
  refine ⟨_, rfl, ?_⟩
  obtain ⟨w0, p0, e0⟩ := pool_ev 4 ns i h0 (by omega)
  obtain ⟨gs, w1, hg, p1, e1⟩ := groups_ev 2 p0
  obtain ⟨c0, c1, c2, c3, c4, c5, c6, c7, c8, w2, hc, p2, e2⟩ := choices_ev 2 p1
  obtain ⟨r, w3, hr, p3, e3⟩ := take_ev 4 p2 2 (by decide) (by decide)
  have e0' : Cl 5 20 [.val (.scr ns), .val (.int i)] = .ok w0 [] := e0
  have e1' : Cl 5 24 [w0] = .ok (.lst (gs.map fun g => .val (gT1 g))) [some w1] := e1
  have e2' : Cl 5 27 [w1] = .ok (chW c0 c1 c2 c3 c4 c5 c6 c7 c8) [some w2] := e2
  have e3' : Cl 5 21 [w2, .val (.int 2)] = .ok (.val (.int r)) [some w3] := e3
  have fin : ∀ (gs' : List (List Str)) (a0 a1 a2 a3 a4 a5 a6 a7 a8 : T) (w : W) (W3 W4 : W), GOk gs' → ChOk a0 a1 a2 a3 a4 a5 a6 a7 a8 → W3.fz = nearT gs c0 c1 c2 c3 c4 c5 c6 c7 c8 → W4.fz = nearT gs' a0 a1 a2 a3 a4 a5 a6 a7 a8 →
      evS G6 (Cl 5) (Ss.at_ 2 B29) [some (.val (.scr ns)), some (.val (.int i)), some w2, some (.lst [.lst (gs.map fun g => .val (gT1 g)), chW c0 c1 c2 c3 c4 c5 c6 c7 c8]), o4, o5, o6, o7, o8, o9] = .ok .nx [some (.val (.scr ns)), some (.val (.int i)), some w, some W3, some W4, o5, o6, o7, o8, o9] →
      ∃ env2, evSs G6 (Cl 5) B29 [some (.val (.scr ns)), some (.val (.int i)), o2, o3, o4, o5, o6, o7, o8, o9] = .ok .nx env2 ∧ PL ns env2 := by
    intro gs' a0 a1 a2 a3 a4 a5 a6 a7 a8 w W3 W4 hg' ha h3 h4 e
    obtain ⟨env', ea, hpe⟩ := asked (s := .scr ns) (k := .int i) (w := w) hg hg' hc ha o5 o8 o9
    have hpl : PL ns env' := by
      obtain ⟨q5, q8, q9, rfl⟩ := hpe
      exact ⟨_, _, _, _, _, _, _, _, _, rfl⟩
    refine ⟨env', ?_, hpl⟩
    refine ss_step (s := Ss.at_ 0 B29) (env1 := [some (.val (.scr ns)), some (.val (.int i)), some w0, o3, o4, o5, o6, o7, o8, o9]) ?_ ?_
    · show ((evE G6 (Cl 5) (.call 20 (.cons (.rd 0) (.cons (.rd 1) .nil)) []) _).bind _) = _
      rw [call2 (w := .val (.scr ns)) (v := .val (.int i)) rfl rfl e0']
      rfl
    refine ss_step (s := Ss.at_ 1 B29) (env1 := [some (.val (.scr ns)), some (.val (.int i)), some w2, some (.lst [.lst (gs.map fun g => .val (gT1 g)), chW c0 c1 c2 c3 c4 c5 c6 c7 c8]), o4, o5, o6, o7, o8, o9]) ?_ ?_
    · simp [Ss.at_, S.body, B29, ir29, qS_asg, qE_lst, qEs_cons, qEs_nil, qE_call, qA_io, qA_nil, R.bind, e1', e2', backO]
    refine ss_step (s := Ss.at_ 2 B29) e ?_
    exact ss_step (s := Ss.at_ 3 B29) (s3 hg hg' hc ha o5 o6 o7 o8 o9 W3 W4 h3 h4) ea
  by_cases hr0 : r = 0
  · subst hr0
    obtain ⟨a0, a1, a2, a3, a4, a5, a6, a7, a8, w4, ha, p4, e4⟩ := choices_ev 2 p3
    have e4' : Cl 5 27 [w3] = .ok (chW a0 a1 a2 a3 a4 a5 a6 a7 a8) [some w4] := e4
    have ei : eqT (.int 0) (.int 0) = some true := by rw [eqT_int]; rfl
    have e3'' : Cl 5 21 [w2, .val (.int 2)] = .ok (.val (.int 0)) [some w3] := e3'
    have fz := near_fz (gs := gs) (c0 := c0) (c1 := c1) (c2 := c2) (c3 := c3) (c4 := c4) (c5 := c5) (c6 := c6) (c7 := c7) (c8 := c8)
    refine fin gs a0 a1 a2 a3 a4 a5 a6 a7 a8 w4 (.val (nearT gs c0 c1 c2 c3 c4 c5 c6 c7 c8)) (.lst [.val (.lst (gs.map gT1)), chW a0 a1 a2 a3 a4 a5 a6 a7 a8]) hg ha rfl rfl ?_
    have x1 : evE G6 (Cl 5) (.ix (.rd 3) (.int 0)) [some (.val (.scr ns)), some (.val (.int i)), some w3, some (.lst [.lst (gs.map fun g => .val (gT1 g)), chW c0 c1 c2 c3 c4 c5 c6 c7 c8]), o4, o5, o6, o7, o8, o9] = .ok (.val (.lst (gs.map gT1))) [some (.val (.scr ns)), some (.val (.int i)), some w3, some (.val (nearT gs c0 c1 c2 c3 c4 c5 c6 c7 c8)), o4, o5, o6, o7, o8, o9] := by
      rw [qE_ix, rd_any (w := .lst [.lst (gs.map fun g => .val (gT1 g)), chW c0 c1 c2 c3 c4 c5 c6 c7 c8]) rfl, fz]
      rfl
    simp [Ss.at_, S.body, B29, ir29, qS_asg, qE_lst, qEs_cons, qEs_nil, qE_ife, qT_v, qE_cmp, qE_int, qE_call, qA_io, qA_cons, qA_nil, R.bind, R.of, W.fz, cmpT, T.tru, e3'', ei, x1, e4', backO]
  · obtain ⟨gs', w4, hg', p4, e4⟩ := groups_ev 2 p3
    obtain ⟨a0, a1, a2, a3, a4, a5, a6, a7, a8, w5, ha, p5, e5⟩ := choices_ev 2 p4
    have e4' : Cl 5 24 [w3] = .ok (.lst (gs'.map fun g => .val (gT1 g))) [some w4] := e4
    have e5' : Cl 5 27 [w4] = .ok (chW a0 a1 a2 a3 a4 a5 a6 a7 a8) [some w5] := e5
    have ei : eqT (.int (r : Int)) (.int 0) = some false := by rw [eqT_int, decide_eq_false (by omega)]
    refine fin gs' a0 a1 a2 a3 a4 a5 a6 a7 a8 w5 _ _ hg' ha near_fz near_fz ?_
    simp [Ss.at_, S.body, B29, ir29, qS_asg, qE_lst, qEs_cons, qEs_nil, qE_ife, qT_v, qE_cmp, qE_int, qE_call, qA_io, qA_cons, qA_nil, R.bind, R.of, W.fz, cmpT, T.tru, e3', ei, e4', e5', backO]
theorem rng_le : ∀ (n : Nat) (a : Int) (t : T), t ∈ (rngI a n).map .int → ∃ i, t = .int i ∧ a ≤ i ∧ i < a + n
  | 0, a, t, h => by cases h
  | n + 1, a, t, h => by
    rcases List.mem_cons.mp (show t ∈ T.int a :: (rngI (a + 1) n).map .int from h) with rfl | h
    · exact ⟨a, rfl, by omega, by omega⟩
    · obtain ⟨i, e, h1, h2⟩ := rng_le n (a + 1) t h
      exact ⟨i, e, by omega, by omega⟩
theorem law (ns : List Int) : ∃ o, Cl 6 29 [.val (.scr ns)] = .ok (.val (.bl true)) o := by
  have e1 : evS G6 (Cl 5) (Ss.at_ 0 ir29) [some (.val (.scr ns)), none, none, none, none, none, none, none, none, none] = .ok .nx [some (.val (.scr ns)), none, none, none, none, none, none, none, none, none] := by kernel_rfl
  have e2 : evS G6 (Cl 5) (Ss.at_ 1 ir29) [some (.val (.scr ns)), none, none, none, none, none, none, none, none, none] = .ok .nx [some (.val (.scr ns)), none, none, none, none, none, none, none, none, none] := by kernel_rfl
  obtain ⟨n, hn, en⟩ : ∃ n : Nat, n ≤ 10 ∧ evI G6 (Cl 5) (.rng (.bi .max (.cons (.int 1) (.cons (.bi .min (.cons (.int 10) (.cons (.bi .len (.cons (.rd 0) .nil)) .nil))) .nil))) .no) [some (.val (.scr ns)), none, none, none, none, none, none, none, none, none] = .ok ((rngI 0 n).map .int) [some (.val (.scr ns)), none, none, none, none, none, none, none, none, none] := by
    have okr : ∀ m : Int, 1 ≤ m → m ≤ 10 → rngT (.int m) none = some (rngI 0 m.toNat) := fun m a b => by
      show (if okR m = true then some (rngI 0 m.toNat) else none) = _
      rw [if_pos]
      simp only [okR, Bool.and_eq_true, decide_eq_true_eq]
      omega
    by_cases a : (ns.length : Int) < 10
    · by_cases b : (1 : Int) < (ns.length : Int)
      · have o := okr (ns.length : Int) (by omega) (by omega)
        exact ⟨ns.length, by omega, by simp [qI_rng, qE_bi, qEs_cons, qEs_nil, qE_int, qE_rd, qO_no, R.bind, R.of, fzs, W.fz, biT, minT, maxT, lenT, a, b, o]⟩
      · have o := okr 1 (by omega) (by omega)
        exact ⟨1, by omega, by simp [qI_rng, qE_bi, qEs_cons, qEs_nil, qE_int, qE_rd, qO_no, R.bind, R.of, fzs, W.fz, biT, minT, maxT, lenT, a, b, o]⟩
    · have o := okr 10 (by omega) (by omega)
      exact ⟨10, by omega, by simp [qI_rng, qE_bi, qEs_cons, qEs_nil, qE_int, qE_rd, qO_no, R.bind, R.of, fzs, W.fz, biT, minT, maxT, lenT, a, o]⟩
  obtain ⟨env', e3, o1, o2, o3, o4, o5, o6, o7, o8, o9, rfl⟩ := for_inv (tg := .var 1) (b := B29) (P := PL ns) en ⟨_, _, _, _, _, _, _, _, _, rfl⟩ fun t ht env hp => by
    obtain ⟨i, rfl, h1, h2⟩ := rng_le n 0 t ht
    exact turn ns i h1 (by omega) env hp
  refine ⟨_, call_rt (fd := fd29) (env := [some (.val (.scr ns)), o1, o2, o3, o4, o5, o6, o7, o8, o9]) rfl rfl ?_⟩
  refine ss_step (s := Ss.at_ 0 ir29) e1 ?_
  refine ss_step (s := Ss.at_ 1 ir29) e2 ?_
  exact ss_step (s := Ss.at_ 2 ir29) e3 rfl
end Zk04
namespace Zk04
open PySem L2 Ev
def top (i : Nat) : Stmt := PySem.Challenge.pw_markedregions_k04_rules_told.main.body.getD i (.Pass ⟨0, 0, 0, 0⟩)
abbrev st0 : Stmt := top 2
abbrev N0 : List Str := ["thing"]
abbrev st1 : Stmt := top 3
abbrev N1 : List Str := ["thing", "least", "most"]
abbrev st2 : Stmt := top 4
abbrev N2 : List Str := ["thing"]
abbrev st3 : Stmt := top 16
abbrev N3 : List Str := ["thing"]
abbrev st4 : Stmt := top 17
abbrev N4 : List Str := ["thing", "steps", "group", "step"]
abbrev st5 : Stmt := L2.inClass (top 18) 0
abbrev N5 : List Str := ["self", "groups", "group"]
abbrev st6 : Stmt := L2.inClass (top 18) 1
abbrev N6 : List Str := ["groups"]
abbrev st7 : Stmt := L2.inClass (top 18) 2
abbrev N7 : List Str := ["self"]
abbrev st8 : Stmt := L2.inClass (top 18) 12
abbrev N8 : List Str := ["self", "other"]
abbrev st9 : Stmt := top 21
abbrev N9 : List Str := ["thing"]
abbrev st10 : Stmt := top 22
abbrev N10 : List Str := ["name", "value"]
abbrev st11 : Stmt := top 23
abbrev N11 : List Str := ["plan"]
abbrev st12 : Stmt := L2.inClass (top 24) 0
abbrev N12 : List Str := ["self", "plan", "clear", "flag", "unflag", "start", "choice", "copied", "lock", "held", "read", "told", "name"]
abbrev st13 : Stmt := L2.inClass (top 24) 1
abbrev N13 : List Str := []
abbrev st14 : Stmt := L2.inClass (top 24) 2
abbrev N14 : List Str := ["self"]
abbrev st15 : Stmt := L2.inClass (top 24) 3
abbrev N15 : List Str := ["self", "name", "value", "told"]
abbrev st16 : Stmt := L2.inClass (top 24) 4
abbrev N16 : List Str := ["self", "name"]
abbrev st17 : Stmt := L2.inClass (top 24) 6
abbrev N17 : List Str := ["self", "other"]
abbrev st18 : Stmt := L2.inClass (top 24) 8
abbrev N18 : List Str := ["self", "other"]
abbrev st19 : Stmt := top 25
abbrev N19 : List Str := ["one", "other", "found", "name"]
abbrev st20 : Stmt := top 27
abbrev N20 : List Str := ["_law_script", "_law_k", "_law_cell", "_law_big", "_law_mixed"]
abbrev st21 : Stmt := top 28
abbrev N21 : List Str := ["_law_pool_here", "_law_bound", "_law_result"]
abbrev st22 : Stmt := top 29
abbrev N22 : List Str := ["_law_pool_here", "_law_things"]
abbrev st23 : Stmt := top 30
abbrev N23 : List Str := ["_law_pool_here", "_law_things", "_law_left", "_law_found"]
abbrev st24 : Stmt := top 31
abbrev N24 : List Str := ["_law_pool_here", "_law_some", "_law_found", "_law_word", "_law_group"]
abbrev st25 : Stmt := top 32
abbrev N25 : List Str := ["_law_found"]
abbrev st26 : Stmt := top 33
abbrev N26 : List Str := ["_law_found"]
abbrev st27 : Stmt := top 34
abbrev N27 : List Str := ["_law_pool_here", "_law_name", "_law_menu_here", "_law_found"]
abbrev st28 : Stmt := top 35
abbrev N28 : List Str := ["_law_groups_here", "_law_own"]
abbrev st29 : Stmt := top 39
abbrev N29 : List Str := ["_law_script", "_law_k", "_law_pool_here", "_law_near", "_law_far", "_law_name", "_law_one_here", "_law_other", "_law_worth", "_law_later"]
abbrev st30 : Stmt := top 36
abbrev N30 : List Str := ["_law_rules_here", "_law_name"]
abbrev st31 : Stmt := top 37
abbrev N31 : List Str := ["_law_groups_here", "_law_told_here", "_law_own", "_law_group", "_law_name"]
abbrev st32 : Stmt := top 38
abbrev N32 : List Str := ["_law_near", "_law_far", "_law_own", "_law_group", "_law_name"]
section
variable {P : Program} {w : World} {K : PySem.W.Frag} {mg : Str → Option Value} {base : Heap} {f : Addr} {fd : FuncData} {d : Nat}
abbrev IH (P : Program) (w : World) (K : PySem.W.Frag) (mg : Str → Option Value) (base : Heap) (d : Nat) : Prop := Ih P w K mg base xr0 (Cl d) tx d
theorem sc0 : FnScope N0 ["thing"] (defScope st0) := ⟨rfl, rfl, rfl, by decide +kernel, rfl, by decide +kernel, by decide +kernel⟩
theorem bd0 (M : Mg K w mg tx) (ih : IH P w K mg base d) : Bd P w K mg base xr0 xm0 (cstG tx.cs) tab d N0 "is_integer" (defScope st0) f (defBody st0) Sh.fd0 := by
  intro cdv A outer s H E hr
  have cx := ct_of (xm := xm0) (cdv := cdv) (A := A) (outer := outer) (s := s) (H := H) (E := E) sc0 M ih hr
  exact (sns_cons (sns_ret (snd_and (e_isi cx .int (e_rd 0)) (snd_one (snd_not (e_isi cx .bool (e_rd 0))))))
      sns_nil)
theorem sc1 : FnScope N1 ["thing", "least", "most"] (defScope st1) := ⟨rfl, rfl, rfl, by decide +kernel, rfl, by decide +kernel, by decide +kernel⟩
theorem bd1 (M : Mg K w mg tx) (ih : IH P w K mg base d) : Bd P w K mg base xr0 xm0 (cstG tx.cs) tab d N1 "is_between" (defScope st1) f (defBody st1) Sh.fd1 := by
  intro cdv A outer s H E hr
  have cx := ct_of (xm := xm0) (cdv := cdv) (A := A) (outer := outer) (s := s) (H := H) (E := E) sc1 M ih hr
  exact (sns_cons (sns_ret (snd_and (e_call cx 0 (a_cons (e_rd 0) a_nil)) (snd_one (e_chn cx (e_rd 1) (e_rd 0) (e_rd 2)))))
      sns_nil)
theorem sc2 : FnScope N2 ["thing"] (defScope st2) := ⟨rfl, rfl, rfl, by decide +kernel, rfl, by decide +kernel, by decide +kernel⟩
theorem bd2 (M : Mg K w mg tx) (ih : IH P w K mg base d) : Bd P w K mg base xr0 xm0 (cstG tx.cs) tab d N2 "is_row" (defScope st2) f (defBody st2) Sh.fd2 := by
  intro cdv A outer s H E hr
  have cx := ct_of (xm := xm0) (cdv := cdv) (A := A) (outer := outer) (s := s) (H := H) (E := E) sc2 M ih hr
  exact (sns_cons (sns_ret (e_isis2 cx .list .tuple (e_rd 0)))
      sns_nil)
theorem sc3 : FnScope N3 ["thing"] (defScope st3) := ⟨rfl, rfl, rfl, by decide +kernel, rfl, by decide +kernel, by decide +kernel⟩
theorem bd3 (M : Mg K w mg tx) (ih : IH P w K mg base d) : Bd P w K mg base xr0 xm0 (cstG tx.cs) tab d N3 "is_step" (defScope st3) f (defBody st3) Sh.fd3 := by
  intro cdv A outer s H E hr
  have cx := ct_of (xm := xm0) (cdv := cdv) (A := A) (outer := outer) (s := s) (H := H) (E := E) sc3 M ih hr
  exact (sns_cons (sns_ret (snd_and (e_isi cx .str (e_rd 0)) (snd_one (e_cmp cx (e_rd 0) (e_cst cx 0 38)))))
      sns_nil)
theorem sc4 : FnScope N4 ["thing"] (defScope st4) := ⟨rfl, rfl, rfl, by decide +kernel, rfl, by decide +kernel, by decide +kernel⟩
theorem bd4 (M : Mg K w mg tx) (ih : IH P w K mg base d) : Bd P w K mg base xr0 xm0 (cstG tx.cs) tab d N4 "are_groups" (defScope st4) f (defBody st4) Sh.fd4 := by
  intro cdv A outer s H E hr
  have cx := ct_of (xm := xm0) (cdv := cdv) (A := A) (outer := outer) (s := s) (H := H) (E := E) sc4 M ih hr
  exact (sns_cons (sns_if (t_w (snw_or (snt_not (t_v (e_call cx 2 (a_cons (e_rd 0) a_nil)))) (snw_one (snt_not (t_v (e_all cx (e_cons (e_lc cx [("group", 2)] (sni_e (e_rd 0)) (fun _ _ _ _ _ => (g_var (cx.blk) 2)) (fun _ _ _ _ _ => ts_nil) (fun _ _ _ _ _ => (snd_and (e_call (cx.blk) 2 (a_cons (e_rd 2) a_nil)) (snd_one (e_cmp (cx.blk) (e_len (cx.blk) (e_cons (e_rd 2) e_nil)) snd_int))))) e_nil))))))) (sns_cons (sns_ret snd_bl)
      sns_nil) sns_nil)
      (sns_cons (s_asg cx 1 (e_lc2 cx [("group", 2), ("step", 3)] [3] (sni_e (e_rd 0)) (fun _ _ _ _ _ => (g_var (cx.blk) 2)) (fun _ _ _ _ _ => (sni_e (e_rd 2))) (fun _ _ _ _ _ => (g_var (cx.blk) 3)) (fun _ _ _ _ _ => (e_rd 3))))
      (sns_cons (sns_if (t_w (snw_or (snt_not (t_v (e_all cx (e_cons (e_lc cx [("step", 3)] (sni_e (e_rd 1)) (fun _ _ _ _ _ => (g_var (cx.blk) 3)) (fun _ _ _ _ _ => ts_nil) (fun _ _ _ _ _ => (e_call (cx.blk) 3 (a_cons (e_rd 3) a_nil)))) e_nil)))) (snw_one (snt_not (t_v (e_all cx (e_cons (e_lc cx [("step", 3)] (sni_e (e_cst cx 1 36)) (fun _ _ _ _ _ => (g_var (cx.blk) 3)) (fun _ _ _ _ _ => ts_nil) (fun _ _ _ _ _ => (e_cmp (cx.blk) (e_rd 3) (e_rd 1)))) e_nil))))))) (sns_cons (sns_ret snd_bl)
      sns_nil) sns_nil)
      (sns_cons (sns_ret (e_cmp cx (e_len cx (e_cons (e_srtX cx [("step", 3)] (sni_e (e_rd 1)) (fun _ _ _ _ _ => (g_var (cx.blk) 3)) (fun _ _ _ _ _ => ts_nil) (fun _ _ _ _ _ => (e_rd 3))) e_nil)) (e_len cx (e_cons (e_rd 1) e_nil))))
      sns_nil))))
theorem sc5 : FnScope N5 ["self", "groups"] (defScope st5) := ⟨rfl, rfl, rfl, by decide +kernel, rfl, by decide +kernel, by decide +kernel⟩
theorem bd5 (M : Mg K w mg tx) (ih : IH P w K mg base d) : Bd P w K mg base xr0 xm0 (cstG tx.cs) tab d N5 "Plan.__init__" (defScope st5) f (defBody st5) Sh.fd5 := by
  intro cdv A outer s H E hr
  have cx := ct_of (xm := xm0) (cdv := cdv) (A := A) (outer := outer) (s := s) (H := H) (E := E) sc5 M ih hr
  exact (sns_cons (sns_if (snt_not (t_v (e_call cx 4 (a_cons (e_rd 1) a_nil)))) (sns_cons s_never
      sns_nil) sns_nil)
      (sns_cons (s_setf cx 26 34 0 (e_tuple cx (e_cons (e_lc cx [("group", 2)] (sni_e (e_rd 1)) (fun _ _ _ _ _ => (g_var (cx.blk) 2)) (fun _ _ _ _ _ => ts_nil) (fun _ _ _ _ _ => (e_tuple (cx.blk) (e_cons (e_sorted (cx.blk) (e_cons (e_rd 2) e_nil)) e_nil)))) e_nil)))
      sns_nil))
theorem sc6 : FnScope N6 ["groups"] (defScope st6) := ⟨rfl, rfl, rfl, by decide +kernel, rfl, by decide +kernel, by decide +kernel⟩
theorem bd6 (M : Mg K w mg tx) (ih : IH P w K mg base d) : Bd P w K mg base xr0 xm0 (cstG tx.cs) tab d N6 "Plan.of" (defScope st6) f (defBody st6) Sh.fd6 := by
  intro cdv A outer s H E hr
  have cx := ct_of (xm := xm0) (cdv := cdv) (A := A) (outer := outer) (s := s) (H := H) (E := E) sc6 M ih hr
  exact (sns_cons (sns_if (t_w (snw_or (snt_not (t_v (e_call cx 2 (a_cons (e_rd 0) a_nil)))) (snw_one (snt_not (t_v (e_call cx 4 (a_cons (e_rd 0) a_nil))))))) (sns_cons s_never
      sns_nil) sns_nil)
      (sns_cons (sns_ret (e_newst cx 0 5 (e_rd 0)))
      sns_nil))
theorem sc7 : FnScope N7 ["self"] (defScope st7) := ⟨rfl, rfl, rfl, by decide +kernel, rfl, by decide +kernel, by decide +kernel⟩
theorem bd7 (M : Mg K w mg tx) (ih : IH P w K mg base d) : Bd P w K mg base xr0 xm0 (cstG tx.cs) tab d N7 "Plan.groups" (defScope st7) f (defBody st7) Sh.fd7 := by
  intro cdv A outer s H E hr
  have cx := ct_of (xm := xm0) (cdv := cdv) (A := A) (outer := outer) (s := s) (H := H) (E := E) sc7 M ih hr
  exact (sns_cons (sns_ret (e_fld cx 26 34 (e_rd 0)))
      sns_nil)
theorem sc8 : FnScope N8 ["self", "other"] (defScope st8) := ⟨rfl, rfl, rfl, by decide +kernel, rfl, by decide +kernel, by decide +kernel⟩
theorem bd8 (M : Mg K w mg tx) (ih : IH P w K mg base d) : Bd P w K mg base xr0 xm0 (cstG tx.cs) tab d N8 "Plan.__eq__" (defScope st8) f (defBody st8) Sh.fd8 := by
  intro cdv A outer s H E hr
  have cx := ct_of (xm := xm0) (cdv := cdv) (A := A) (outer := outer) (s := s) (H := H) (E := E) sc8 M ih hr
  exact (sns_cons (sns_ret (snd_and (e_isc cx 24 5 (e_rd 1)) (snd_one (e_cmp cx (e_fld cx 26 34 (e_rd 0)) (e_fld cx 26 34 (e_rd 1))))))
      sns_nil)
theorem sc9 : FnScope N9 ["thing"] (defScope st9) := ⟨rfl, rfl, rfl, by decide +kernel, rfl, by decide +kernel, by decide +kernel⟩
theorem bd9 (M : Mg K w mg tx) (ih : IH P w K mg base d) : Bd P w K mg base xr0 xm0 (cstG tx.cs) tab d N9 "is_name" (defScope st9) f (defBody st9) Sh.fd9 := by
  intro cdv A outer s H E hr
  have cx := ct_of (xm := xm0) (cdv := cdv) (A := A) (outer := outer) (s := s) (H := H) (E := E) sc9 M ih hr
  exact (sns_cons (sns_ret (snd_and (e_isi cx .str (e_rd 0)) (snd_one (snd_or (e_cmp cx (e_rd 0) snd_str) (snd_one (e_kin cx 2 20 (e_rd 0)))))))
      sns_nil)
theorem sc10 : FnScope N10 ["name", "value"] (defScope st10) := ⟨rfl, rfl, rfl, by decide +kernel, rfl, by decide +kernel, by decide +kernel⟩
theorem bd10 (M : Mg K w mg tx) (ih : IH P w K mg base d) : Bd P w K mg base xr0 xm0 (cstG tx.cs) tab d N10 "fits" (defScope st10) f (defBody st10) Sh.fd10 := by
  intro cdv A outer s H E hr
  have cx := ct_of (xm := xm0) (cdv := cdv) (A := A) (outer := outer) (s := s) (H := H) (E := E) sc10 M ih hr
  exact (sns_cons (sns_if (t_pe (e_cmp cx (e_rd 0) snd_str)) (sns_cons (sns_ret (e_isi cx .bool (e_rd 1)))
      sns_nil) sns_nil)
      (sns_cons (sns_if (t_pe (e_cmp cx (e_rd 0) snd_str)) (sns_cons (sns_ret (e_call cx 1 (a_cons (e_rd 1) (a_cons snd_int (a_cons snd_int a_nil)))))
      sns_nil) sns_nil)
      (sns_cons (sns_ret (snd_and (e_isi cx .str (e_rd 1)) (snd_one (e_cmp cx (e_rd 1) (e_kget cx 2 20 (e_rd 0))))))
      sns_nil)))
theorem sc11 : FnScope N11 ["plan"] (defScope st11) := ⟨rfl, rfl, rfl, by decide +kernel, rfl, by decide +kernel, by decide +kernel⟩
theorem bd11 (M : Mg K w mg tx) (ih : IH P w K mg base d) : Bd P w K mg base xr0 xm0 (cstG tx.cs) tab d N11 "check_plan" (defScope st11) f (defBody st11) Sh.fd11 := by
  intro cdv A outer s H E hr
  have cx := ct_of (xm := xm0) (cdv := cdv) (A := A) (outer := outer) (s := s) (H := H) (E := E) sc11 M ih hr
  exact (sns_cons (sns_if (snt_not (t_v (e_isc cx 24 5 (e_rd 0)))) (sns_cons s_never
      sns_nil) sns_nil)
      sns_nil)
theorem sc12 : FnScope N12 ["self", "plan", "clear", "flag", "unflag", "start", "choice", "copied", "lock", "held", "read"] (defScope st12) := ⟨rfl, rfl, rfl, by decide +kernel, rfl, by decide +kernel, by decide +kernel⟩
theorem bd12 (M : Mg K w mg tx) (ih : IH P w K mg base d) : Bd P w K mg base xr0 xm0 (cstG tx.cs) tab d N12 "Rules.__init__" (defScope st12) f (defBody st12) Sh.fd12 := by
  intro cdv A outer s H E hr
  have cx := ct_of (xm := xm0) (cdv := cdv) (A := A) (outer := outer) (s := s) (H := H) (E := E) sc12 M ih hr
  exact (sns_cons (s_expr (e_call cx 11 (a_cons (e_rd 1) a_nil)))
      (sns_cons (s_asg cx 11 (e_dct (pd_str (e_rd 2) (pd_str (e_rd 3) (pd_str (e_rd 4) (pd_str (e_rd 5) (pd_str (e_rd 6) (pd_str (e_rd 7) pd_nil))))))))
      (sns_cons (s_setx cx 11 snd_str (e_rd 8))
      (sns_cons (s_setx cx 11 snd_str (e_rd 9))
      (sns_cons (s_setx cx 11 snd_str (e_rd 10))
      (sns_cons (s_for cx own_of (i_kk cx 2 20) (g_var cx 12) (sns_cons (sns_if (snt_not (t_v (e_call cx 10 (a_cons (e_rd 12) (a_cons (e_rdx cx 11 (e_rd 12)) a_nil))))) (sns_cons s_never
      sns_nil) sns_nil)
      sns_nil))
      (sns_cons (s_setf cx 12 19 0 (e_rd 1))
      (sns_cons (s_setf cx 12 18 0 (e_rd 11))
      sns_nil))))))))
theorem sc13 : FnScope N13 [] (defScope st13) := ⟨rfl, rfl, rfl, by decide +kernel, rfl, by decide +kernel, by decide +kernel⟩
theorem bd13 (M : Mg K w mg tx) (ih : IH P w K mg base d) : Bd P w K mg base xr0 xm0 (cstG tx.cs) tab d N13 "Rules.names" (defScope st13) f (defBody st13) Sh.fd13 := by
  intro cdv A outer s H E hr
  have cx := ct_of (xm := xm0) (cdv := cdv) (A := A) (outer := outer) (s := s) (H := H) (E := E) sc13 M ih hr
  exact (sns_cons (sns_ret (e_klist cx 2 20))
      sns_nil)
theorem sc14 : FnScope N14 ["self"] (defScope st14) := ⟨rfl, rfl, rfl, by decide +kernel, rfl, by decide +kernel, by decide +kernel⟩
theorem bd14 (M : Mg K w mg tx) (ih : IH P w K mg base d) : Bd P w K mg base xr0 xm0 (cstG tx.cs) tab d N14 "Rules.plan" (defScope st14) f (defBody st14) Sh.fd14 := by
  intro cdv A outer s H E hr
  have cx := ct_of (xm := xm0) (cdv := cdv) (A := A) (outer := outer) (s := s) (H := H) (E := E) sc14 M ih hr
  exact (sns_cons (sns_ret (e_fld cx 12 19 (e_rd 0)))
      sns_nil)
theorem sc15 : FnScope N15 ["self", "name", "value"] (defScope st15) := ⟨rfl, rfl, rfl, by decide +kernel, rfl, by decide +kernel, by decide +kernel⟩
theorem bd15 (M : Mg K w mg tx) (ih : IH P w K mg base d) : Bd P w K mg base xr0 xm0 (cstG tx.cs) tab d N15 "Rules.changed" (defScope st15) f (defBody st15) Sh.fd15 := by
  intro cdv A outer s H E hr
  have cx := ct_of (xm := xm0) (cdv := cdv) (A := A) (outer := outer) (s := s) (H := H) (E := E) sc15 M ih hr
  exact (sns_cons (sns_if (snt_not (t_v (e_call cx 9 (a_cons (e_rd 1) a_nil)))) (sns_cons s_never
      sns_nil) sns_nil)
      (sns_cons (s_asg cx 3 (e_dict cx (e_cons (e_fld cx 12 18 (e_rd 0)) e_nil)))
      (sns_cons (sns_if (t_pe (e_cmp cx (e_rd 1) snd_str)) (sns_cons (s_expr (e_call cx 11 (a_cons (e_rd 2) a_nil)))
      (sns_cons (sns_ret (e_newdd cx 1 7 (e_cons (e_rd 2) e_nil) (e_rd 3)))
      sns_nil)) sns_nil)
      (sns_cons (s_setx cx 3 (e_rd 1) (e_rd 2))
      (sns_cons (sns_ret (e_newdd cx 1 7 (e_cons (e_fld cx 12 19 (e_rd 0)) e_nil) (e_rd 3)))
      sns_nil)))))
theorem sc16 : FnScope N16 ["self", "name"] (defScope st16) := ⟨rfl, rfl, rfl, by decide +kernel, rfl, by decide +kernel, by decide +kernel⟩
theorem bd16 (M : Mg K w mg tx) (ih : IH P w K mg base d) : Bd P w K mg base xr0 xm0 (cstG tx.cs) tab d N16 "Rules.__getitem__" (defScope st16) f (defBody st16) Sh.fd16 := by
  intro cdv A outer s H E hr
  have cx := ct_of (xm := xm0) (cdv := cdv) (A := A) (outer := outer) (s := s) (H := H) (E := E) sc16 M ih hr
  exact (sns_cons (sns_if (snt_not (t_v (e_call cx 9 (a_cons (e_rd 1) a_nil)))) (sns_cons s_never
      sns_nil) sns_nil)
      (sns_cons (sns_ret (snd_ife (t_pe (e_cmp cx (e_rd 1) snd_str)) (e_fld cx 12 19 (e_rd 0)) (e_ix cx (e_fld cx 12 18 (e_rd 0)) (e_rd 1))))
      sns_nil))
theorem sc17 : FnScope N17 ["self", "other"] (defScope st17) := ⟨rfl, rfl, rfl, by decide +kernel, rfl, by decide +kernel, by decide +kernel⟩
theorem bd17 (M : Mg K w mg tx) (ih : IH P w K mg base d) : Bd P w K mg base xr0 xm0 (cstG tx.cs) tab d N17 "Rules.__sub__" (defScope st17) f (defBody st17) Sh.fd17 := by
  intro cdv A outer s H E hr
  have cx := ct_of (xm := xm0) (cdv := cdv) (A := A) (outer := outer) (s := s) (H := H) (E := E) sc17 M ih hr
  exact (sns_cons (sns_ret (e_call cx 19 (a_cons (e_rd 0) (a_cons (e_rd 1) a_nil))))
      sns_nil)
theorem sc18 : FnScope N18 ["self", "other"] (defScope st18) := ⟨rfl, rfl, rfl, by decide +kernel, rfl, by decide +kernel, by decide +kernel⟩
theorem bd18 (M : Mg K w mg tx) (ih : IH P w K mg base d) : Bd P w K mg base xr0 xm0 (cstG tx.cs) tab d N18 "Rules.__eq__" (defScope st18) f (defBody st18) Sh.fd18 := by
  intro cdv A outer s H E hr
  have cx := ct_of (xm := xm0) (cdv := cdv) (A := A) (outer := outer) (s := s) (H := H) (E := E) sc18 M ih hr
  exact (sns_cons (sns_ret (snd_and (e_isc cx 15 7 (e_rd 1)) (snd_and (e_ownE cx 8 24 23 (e_fld cx 12 19 (e_rd 0)) (e_fld cx 12 19 (e_rd 1))) (snd_one (e_deq cx (e_fld cx 12 18 (e_rd 0)) (e_fld cx 12 18 (e_rd 1)))))))
      sns_nil)
theorem sc19 : FnScope N19 ["one", "other"] (defScope st19) := ⟨rfl, rfl, rfl, by decide +kernel, rfl, by decide +kernel, by decide +kernel⟩
theorem bd19 (M : Mg K w mg tx) (ih : IH P w K mg base d) : Bd P w K mg base xr0 xm0 (cstG tx.cs) tab d N19 "unlike" (defScope st19) f (defBody st19) Sh.fd19 := by
  intro cdv A outer s H E hr
  have cx := ct_of (xm := xm0) (cdv := cdv) (A := A) (outer := outer) (s := s) (H := H) (E := E) sc19 M ih hr
  exact (sns_cons (sns_if (snt_not (t_v (e_isc cx 15 7 (e_rd 1)))) (sns_cons s_never
      sns_nil) sns_nil)
      (sns_cons (s_asg cx 2 (snd_ife (t_pe (e_ownN cx 8 37 23 (e_fld cx 12 19 (e_rd 0)) (e_fld cx 12 19 (e_rd 1)))) (snd_lst (e_cons snd_str e_nil)) (snd_lst e_nil)))
      (sns_cons (sns_ret (snd_op (e_rd 2) (e_lc cx [("name", 3)] (i_kk cx 2 20) (fun _ _ _ _ _ => (g_var (cx.blk) 3)) (fun _ _ _ _ _ => (ts_one (t_pe (e_cmp (cx.blk) (e_ix (cx.blk) (e_fld (cx.blk) 12 18 (e_rd 0)) (e_rd 3)) (e_ix (cx.blk) (e_fld (cx.blk) 12 18 (e_rd 1)) (e_rd 3)))))) (fun _ _ _ _ _ => (e_rd 3)))))
      sns_nil)))
theorem sc20 : FnScope N20 ["_law_script", "_law_k"] (defScope st20) := ⟨rfl, rfl, rfl, by decide +kernel, rfl, by decide +kernel, by decide +kernel⟩
theorem bd20 (M : Mg K w mg tx) (ih : IH P w K mg base d) : Bd P w K mg base xr0 xm0 (cstG tx.cs) tab d N20 "_law_pool" (defScope st20) f (defBody st20) Sh.fd20 := by
  intro cdv A outer s H E hr
  have cx := ct_of (xm := xm0) (cdv := cdv) (A := A) (outer := outer) (s := s) (H := H) (E := E) sc20 M ih hr
  exact (sns_cons (s_asg cx 2 snd_int)
      (sns_cons (sns_if (t_pe (e_cmp cx (e_rd 1) (e_len cx (e_cons (e_rd 0) e_nil)))) (sns_cons (s_asg cx 2 (e_ix cx (e_rd 0) (e_rd 1)))
      sns_nil) sns_nil)
      (sns_cons (s_asg cx 3 (e_max cx (e_cons (e_toint cx (e_cons (e_rd 2) e_nil)) (e_cons (e_toint cx (e_cons (snd_op (snd_neg snd_int) (e_rd 2)) e_nil)) e_nil))))
      (sns_cons (s_asg cx 4 (snd_op (e_toint cx (e_cons (snd_op (snd_op (snd_op (snd_op (snd_op (e_toint cx (e_cons (e_rd 3) e_nil)) snd_int) (snd_op (snd_op snd_int (e_rd 1)) (e_rd 1))) (snd_op snd_int (e_rd 1))) snd_int) snd_int) e_nil)) snd_int))
      (sns_cons (sns_ret (snd_lst (e_cons (snd_op (e_rd 3) (e_toint cx (e_cons (e_cmp cx (e_rd 3) (snd_op snd_int snd_int)) e_nil))) (e_cons (e_rd 4) e_nil))))
      sns_nil)))))
theorem sc21 : FnScope N21 ["_law_pool_here", "_law_bound"] (defScope st21) := ⟨rfl, rfl, rfl, by decide +kernel, rfl, by decide +kernel, by decide +kernel⟩
theorem bd21 (M : Mg K w mg tx) (ih : IH P w K mg base d) : Bd P w K mg base xr0 xm0 (cstG tx.cs) tab d N21 "_law_take" (defScope st21) f (defBody st21) Sh.fd21 := by
  intro cdv A outer s H E hr
  have cx := ct_of (xm := xm0) (cdv := cdv) (A := A) (outer := outer) (s := s) (H := H) (E := E) sc21 M ih hr
  exact (sns_cons (sns_if (t_pe (e_cmp cx (e_rdx cx 0 snd_int) snd_int)) (sns_cons (s_asg cx 2 (snd_op (e_toint cx (e_cons (e_rdx cx 0 snd_int) e_nil)) (e_rd 1)))
      (sns_cons (s_setx cx 0 snd_int (snd_op (e_rdx cx 0 snd_int) (e_rd 1)))
      (sns_cons (s_retv 2)
      sns_nil))) sns_nil)
      (sns_cons (s_setx cx 0 snd_int (snd_op (e_toint cx (e_cons (snd_op (snd_op (e_rdx cx 0 snd_int) snd_int) snd_int) e_nil)) snd_int))
      (sns_cons (sns_ret (snd_op (e_toint cx (e_cons (snd_op (snd_op (e_toint cx (e_cons (snd_op (e_rdx cx 0 snd_int) (e_rdx cx 0 snd_int)) e_nil)) snd_int) snd_int) e_nil)) (e_rd 1)))
      sns_nil)))
theorem sc22 : FnScope N22 ["_law_pool_here", "_law_things"] (defScope st22) := ⟨rfl, rfl, rfl, by decide +kernel, rfl, by decide +kernel, by decide +kernel⟩
theorem bd22 (M : Mg K w mg tx) (ih : IH P w K mg base d) : Bd P w K mg base xr0 xm0 (cstG tx.cs) tab d N22 "_law_one" (defScope st22) f (defBody st22) Sh.fd22 := by
  intro cdv A outer s H E hr
  have cx := ct_of (xm := xm0) (cdv := cdv) (A := A) (outer := outer) (s := s) (H := H) (E := E) sc22 M ih hr
  exact (sns_cons (sns_ret (e_ix cx (e_rd 1) (e_call cx 21 (a_io 0 (a_cons (e_len cx (e_cons (e_rd 1) e_nil)) a_nil)))))
      sns_nil)
theorem sc23 : FnScope N23 ["_law_pool_here", "_law_things"] (defScope st23) := ⟨rfl, rfl, rfl, by decide +kernel, rfl, by decide +kernel, by decide +kernel⟩
theorem bd23 (M : Mg K w mg tx) (ih : IH P w K mg base d) : Bd P w K mg base xr0 xm0 (cstG tx.cs) tab d N23 "_law_turned" (defScope st23) f (defBody st23) Sh.fd23 := by
  intro cdv A outer s H E hr
  have cx := ct_of (xm := xm0) (cdv := cdv) (A := A) (outer := outer) (s := s) (H := H) (E := E) sc23 M ih hr
  exact (sns_cons (s_par2 cx 2 3 (e_cons (e_list cx (e_cons (e_rd 1) e_nil)) (e_cons (snd_lst e_nil) e_nil)))
      (sns_cons (s_whl own_of 12 (t_pe (e_cmpv cx 2 (snd_lst e_nil))) (sns_cons (s_app 3 (e_popv 2 (e_call cx 21 (a_io 0 (a_cons (e_lenv cx 2) a_nil)))))
      sns_nil))
      (sns_cons (s_retv 3)
      sns_nil)))
theorem sc24 : FnScope N24 ["_law_pool_here"] (defScope st24) := ⟨rfl, rfl, rfl, by decide +kernel, rfl, by decide +kernel, by decide +kernel⟩
theorem bd24 (M : Mg K w mg tx) (ih : IH P w K mg base d) : Bd P w K mg base xr0 xm0 (cstG tx.cs) tab d N24 "_law_groups" (defScope st24) f (defBody st24) Sh.fd24 := by
  intro cdv A outer s H E hr
  have cx := ct_of (xm := xm0) (cdv := cdv) (A := A) (outer := outer) (s := s) (H := H) (E := E) sc24 M ih hr
  exact (sns_cons (s_asg cx 1 (snd_op (snd_lst (e_cons snd_str (e_cons snd_str (e_cons snd_str e_nil)))) (e_lc cx [("_law_word", 3)] (sni_e (snd_lst (e_cons snd_str (e_cons snd_str e_nil)))) (fun _ _ _ _ _ => (g_var (cx.blk) 3)) (fun _ _ _ _ _ => (ts_one (t_pe (e_cmp (cx.blk) (e_call (cx.blk) 21 (a_io 0 (a_cons snd_int a_nil))) snd_int)))) (fun _ _ _ _ _ => (e_rd 3)))))
      (sns_cons (s_asg cx 2 (snd_lst e_nil))
      (sns_cons (s_for cx own_of (sni_e (e_call cx 23 (a_io 0 (a_cons (e_rd 1) a_nil)))) (g_var cx 3) (sns_cons (sns_if (t_w (snw_or (t_pe (e_cmpv cx 2 (snd_lst e_nil))) (snw_one (t_pe (e_cmp cx (e_call cx 21 (a_io 0 (a_cons snd_int a_nil))) snd_int))))) (sns_cons (s_app 2 (snd_lst e_nil))
      sns_nil) sns_nil)
      (sns_cons (s_appx 2 (snd_neg snd_int) (e_rd 3))
      sns_nil)))
      (sns_cons (sns_ret (e_lc cx [("_law_group", 4)] (sni_e (e_rd 2)) (fun _ _ _ _ _ => (g_var (cx.blk) 4)) (fun _ _ _ _ _ => ts_nil) (fun _ _ _ _ _ => (e_tuple (cx.blk) (e_cons (e_rd 4) e_nil)))))
      sns_nil))))
theorem sc25 : FnScope N25 [] (defScope st25) := ⟨rfl, rfl, rfl, by decide +kernel, rfl, by decide +kernel, by decide +kernel⟩
theorem bd25 (M : Mg K w mg tx) (ih : IH P w K mg base d) : Bd P w K mg base xr0 xm0 (cstG tx.cs) tab d N25 "_law_menu" (defScope st25) f (defBody st25) Sh.fd25 := by
  intro cdv A outer s H E hr
  have cx := ct_of (xm := xm0) (cdv := cdv) (A := A) (outer := outer) (s := s) (H := H) (E := E) sc25 M ih hr
  exact (sns_cons (s_asg cx 0 (e_dct (pd_str (snd_lst (e_cons snd_str (e_cons snd_str e_nil))) (pd_str (snd_lst (e_cons snd_str (e_cons snd_str (e_cons snd_str e_nil)))) (pd_str (snd_lst (e_cons snd_str (e_cons snd_str (e_cons snd_str e_nil)))) pd_nil)))))
      (sns_cons (s_setx cx 0 snd_str (snd_lst (e_cons snd_str (e_cons snd_str (e_cons snd_str e_nil)))))
      (sns_cons (s_setx cx 0 snd_str (snd_lst (e_cons snd_int (e_cons snd_int e_nil))))
      (sns_cons (s_setx cx 0 snd_str (snd_lst (e_cons snd_str (e_cons snd_str e_nil))))
      (sns_cons (s_setx cx 0 snd_str (snd_lst (e_cons snd_str (e_cons snd_str (e_cons snd_str e_nil)))))
      (sns_cons (s_setx cx 0 snd_str (snd_lst (e_cons snd_bl (e_cons snd_bl e_nil))))
      (sns_cons (s_setx cx 0 snd_str (snd_lst (e_cons snd_str (e_cons snd_str e_nil))))
      (sns_cons (s_retv 0)
      sns_nil))))))))
theorem sc26 : FnScope N26 [] (defScope st26) := ⟨rfl, rfl, rfl, by decide +kernel, rfl, by decide +kernel, by decide +kernel⟩
theorem bd26 (M : Mg K w mg tx) (ih : IH P w K mg base d) : Bd P w K mg base xr0 xm0 (cstG tx.cs) tab d N26 "_law_usual_choices" (defScope st26) f (defBody st26) Sh.fd26 := by
  intro cdv A outer s H E hr
  have cx := ct_of (xm := xm0) (cdv := cdv) (A := A) (outer := outer) (s := s) (H := H) (E := E) sc26 M ih hr
  exact (sns_cons (s_asg cx 0 (e_dct (pd_str snd_str (pd_str snd_str (pd_str snd_str (pd_str snd_str (pd_str snd_int pd_nil)))))))
      (sns_cons (s_setx cx 0 snd_str snd_str)
      (sns_cons (s_setx cx 0 snd_str snd_str)
      (sns_cons (s_setx cx 0 snd_str snd_bl)
      (sns_cons (s_setx cx 0 snd_str snd_str)
      (sns_cons (s_retv 0)
      sns_nil))))))
theorem sc27 : FnScope N27 ["_law_pool_here"] (defScope st27) := ⟨rfl, rfl, rfl, by decide +kernel, rfl, by decide +kernel, by decide +kernel⟩
theorem bd27 (M : Mg K w mg tx) (ih : IH P w K mg base d) : Bd P w K mg base xr0 xm0 (cstG tx.cs) tab d N27 "_law_choices" (defScope st27) f (defBody st27) Sh.fd27 := by
  intro cdv A outer s H E hr
  have cx := ct_of (xm := xm0) (cdv := cdv) (A := A) (outer := outer) (s := s) (H := H) (E := E) sc27 M ih hr
  exact (sns_cons (s_par2 cx 2 3 (e_cons (e_call0 cx 25) (e_cons (e_call0 cx 26) e_nil)))
      (sns_cons (s_for cx own_of (i_keysv 2) (g_var cx 1) (sns_cons (sns_if (t_pe (e_cmp cx (e_call cx 21 (a_io 0 (a_cons snd_int a_nil))) snd_int)) (sns_cons (s_setx cx 3 (e_rd 1) (e_call cx 22 (a_io 0 (a_cons (e_ix cx (e_rd 2) (e_rd 1)) a_nil))))
      sns_nil) sns_nil)
      sns_nil))
      (sns_cons (s_retv 3)
      sns_nil)))
theorem sc28 : FnScope N28 ["_law_groups_here", "_law_own"] (defScope st28) := ⟨rfl, rfl, rfl, by decide +kernel, rfl, by decide +kernel, by decide +kernel⟩
theorem bd28 (M : Mg K w mg tx) (ih : IH P w K mg base d) : Bd P w K mg base xr0 xm0 (cstG tx.cs) tab d N28 "_law_rules" (defScope st28) f (defBody st28) Sh.fd28 := by
  intro cdv A outer s H E hr
  have cx := ct_of (xm := xm0) (cdv := cdv) (A := A) (outer := outer) (s := s) (H := H) (E := E) sc28 M ih hr
  exact (sns_cons (sns_ret (e_new (m := ⟨"Rules", 12, 1, ["clear", "flag", "unflag", "start", "choice", "copied", "lock", "held", "read"], [.p 0, .k 0, .k 1, .k 2, .k 3, .k 4, .k 5, .k 6, .k 7, .k 8], []⟩) cx 1 7 (e_cons (e_stat cx 6 5 6 (a_cons (e_rd 0) a_nil)) e_nil) (k_cons (e_ix cx (e_rd 1) snd_str) (k_cons (e_ix cx (e_rd 1) snd_str) (k_cons (e_ix cx (e_rd 1) snd_str) (k_cons (e_ix cx (e_rd 1) snd_str) (k_cons (e_ix cx (e_rd 1) snd_str) (k_cons (e_ix cx (e_rd 1) snd_str) (k_cons (e_ix cx (e_rd 1) snd_str) (k_cons (e_ix cx (e_rd 1) snd_str) (k_cons (e_ix cx (e_rd 1) snd_str) k_nil)))))))))))
      sns_nil)
theorem sc29 : FnScope N29 ["_law_script"] (defScope st29) := ⟨rfl, rfl, rfl, by decide +kernel, rfl, by decide +kernel, by decide +kernel⟩
theorem bd29 (M : Mg K w mg tx) (ih : IH P w K mg base d) : Bd P w K mg base xr0 xm0 (cstG tx.cs) tab d N29 "law" (defScope st29) f (defBody st29) fd29 := by
  intro cdv A outer s H E hr
  have cx := ct_of (xm := xm0) (cdv := cdv) (A := A) (outer := outer) (s := s) (H := H) (E := E) sc29 M ih hr
  exact (sns_cons (sns_if (t_pe (e_cmp cx (e_stat0 cx 13 7 10) (e_list cx (e_cons (e_call0 cx 25) e_nil)))) (sns_cons (sns_ret snd_bl)
      sns_nil) sns_nil)
      (sns_cons (s_clrt (e_stat0 cx 13 7 10))
      (sns_cons (s_for cx own_of (i_rng1 cx (e_max cx (e_cons snd_int (e_cons (e_min cx (e_cons snd_int (e_cons (e_len cx (e_cons (e_rd 0) e_nil)) e_nil))) e_nil)))) (g_var cx 1) (sns_cons (s_asg cx 2 (e_call cx 20 (a_cons (e_rd 0) (a_cons (e_rd 1) a_nil))))
      (sns_cons (s_asg cx 3 (snd_lst (e_cons (e_call cx 24 (a_io 2 a_nil)) (e_cons (e_call cx 27 (a_io 2 a_nil)) e_nil))))
      (sns_cons (s_asg cx 4 (snd_lst (e_cons (snd_ife (t_pe (e_cmp cx (e_call cx 21 (a_io 2 (a_cons snd_int a_nil))) snd_int)) (e_ix cx (e_rd 3) snd_int) (e_call cx 24 (a_io 2 a_nil))) (e_cons (e_call cx 27 (a_io 2 a_nil)) e_nil))))
      (sns_cons (s_par2 cx 6 7 (e_cons (e_call cx 28 (a_cons (e_ix cx (e_rd 3) snd_int) (a_cons (e_ix cx (e_rd 3) snd_int) a_nil))) (e_cons (e_call cx 28 (a_cons (e_ix cx (e_rd 4) snd_int) (a_cons (e_ix cx (e_rd 4) snd_int) a_nil))) e_nil)))
      (sns_cons (sns_if (t_pe (e_cmp cx (e_call cx 30 (a_cons (e_rd 6) a_nil)) (e_call cx 31 (a_cons (e_ix cx (e_rd 3) snd_int) (a_cons (e_ix cx (e_rd 3) snd_int) a_nil))))) (sns_cons (sns_ret snd_bl)
      sns_nil) sns_nil)
      (sns_cons (sns_if (t_pe (e_cmp cx (e_call cx 30 (a_cons (e_rd 7) a_nil)) (e_call cx 31 (a_cons (e_ix cx (e_rd 4) snd_int) (a_cons (e_ix cx (e_rd 4) snd_int) a_nil))))) (sns_cons (sns_ret snd_bl)
      sns_nil) sns_nil)
      (sns_cons (sns_if (t_pe (e_cmp cx (e_ownB cx 17 16 17 (e_rd 6) (e_rd 7)) (e_call cx 32 (a_cons (e_rd 3) (a_cons (e_rd 4) a_nil))))) (sns_cons (sns_ret snd_bl)
      sns_nil) sns_nil)
      (sns_cons (sns_if (t_w (snw_or (t_pe (e_cmp cx (e_ownB cx 17 16 17 (e_rd 7) (e_rd 6)) (e_call cx 32 (a_cons (e_rd 4) (a_cons (e_rd 3) a_nil))))) (snw_one (t_pe (e_cmp cx (e_ownB cx 17 16 17 (e_rd 6) (e_rd 6)) (snd_lst e_nil)))))) (sns_cons (sns_ret snd_bl)
      sns_nil) sns_nil)
      (sns_cons (sns_if (t_w (snw_or (t_pe (e_cmp cx (e_ownE cx 18 15 8 (e_rd 6) (e_rd 7)) (e_cmp cx (e_call cx 32 (a_cons (e_rd 3) (a_cons (e_rd 4) a_nil))) (snd_lst e_nil)))) (snw_one (t_pe (e_ownE cx 18 15 8 (e_rd 6) (e_rd 3)))))) (sns_cons (sns_ret snd_bl)
      sns_nil) sns_nil)
      (sns_cons (sns_if (t_pe (e_ownN cx 18 9 8 (e_rd 6) (e_call cx 28 (a_cons (e_ix cx (e_rd 3) snd_int) (a_cons (e_ix cx (e_rd 3) snd_int) a_nil))))) (sns_cons (sns_ret snd_bl)
      sns_nil) sns_nil)
      (sns_cons (s_for cx own_of (i_keys (e_call0 cx 25)) (g_var cx 5) (sns_cons (s_for cx own_of (sni_e (e_ix cx (e_call0 cx 25) (e_rd 5))) (g_var cx 8) (sns_cons (s_asg cx 9 (e_dict cx (e_cons (snd_op (e_items cx (e_ix cx (e_rd 3) snd_int)) (snd_lst (e_cons (snd_tup (e_cons (e_rd 5) (e_cons (e_rd 8) e_nil))) e_nil))) e_nil)))
      (sns_cons (sns_if (t_pe (e_cmp cx (e_call cx 30 (a_cons (e_meth cx 15 12 13 (e_rd 6) (a_cons (e_rd 5) (a_cons (e_rd 8) a_nil))) a_nil)) (e_call cx 31 (a_cons (e_ix cx (e_rd 3) snd_int) (a_cons (e_rd 9) a_nil))))) (sns_cons (sns_ret snd_bl)
      sns_nil) sns_nil)
      sns_nil)))
      sns_nil))
      (sns_cons (sns_if (t_pe (e_cmp cx (e_call cx 30 (a_cons (e_meth cx 15 12 13 (e_rd 6) (a_cons snd_str (a_cons (e_stat cx 6 5 6 (a_cons (e_ix cx (e_rd 4) snd_int) a_nil)) a_nil))) a_nil)) (e_call cx 31 (a_cons (e_ix cx (e_rd 4) snd_int) (a_cons (e_ix cx (e_rd 3) snd_int) a_nil))))) (sns_cons (sns_ret snd_bl)
      sns_nil) sns_nil)
      (sns_cons (sns_if (t_pe (e_cmp cx (e_call cx 30 (a_cons (e_rd 6) a_nil)) (e_call cx 31 (a_cons (e_ix cx (e_rd 3) snd_int) (a_cons (e_ix cx (e_rd 3) snd_int) a_nil))))) (sns_cons (sns_ret snd_bl)
      sns_nil) sns_nil)
      (sns_cons (sns_if (t_pe (e_cmp cx (e_stat0 cx 13 7 10) (e_list cx (e_cons (e_call0 cx 25) e_nil)))) (sns_cons (sns_ret snd_bl)
      sns_nil) sns_nil)
      (sns_cons (sns_if (t_pe (e_ownN cx 18 9 8 (e_new (m := ⟨"Rules", 12, 1, [], [.p 0, .d 0 (.str "quiet"), .d 1 (.str "ahead"), .d 2 (.str "ahead"), .d 3 (.str "flagged"), .d 4 (.int 0), .d 5 (.str "both"), .d 6 (.str "lock"), .d 7 (.bl true), .d 8 (.str "source")], [(.str "quiet"), (.str "ahead"), (.str "ahead"), (.str "flagged"), (.int 0), (.str "both"), (.str "lock"), (.bl true), (.str "source")]⟩) cx 0 7 (e_cons (e_stat cx 6 5 6 (a_cons (e_ix cx (e_rd 3) snd_int) a_nil)) e_nil) k_nil) (e_call cx 28 (a_cons (e_ix cx (e_rd 3) snd_int) (a_cons (e_call0 cx 26) a_nil))))) (sns_cons (sns_ret snd_bl)
      sns_nil) sns_nil)
      sns_nil))))))))))))))))
      (sns_cons (sns_ret snd_bl)
      sns_nil))))
theorem sc30 : FnScope N30 ["_law_rules_here"] (defScope st30) := ⟨rfl, rfl, rfl, by decide +kernel, rfl, by decide +kernel, by decide +kernel⟩
theorem bd30 (M : Mg K w mg tx) (ih : IH P w K mg base d) : Bd P w K mg base xr0 xm0 (cstG tx.cs) tab d N30 "_law_told" (defScope st30) f (defBody st30) fd30 := by
  intro cdv A outer s H E hr
  have cx := ct_of (xm := xm0) (cdv := cdv) (A := A) (outer := outer) (s := s) (H := H) (E := E) sc30 M ih hr
  exact (sns_cons (sns_ret (snd_op (snd_lst (e_cons (e_prop cx 7 26 27 (e_prop cx 14 12 28 (e_rd 0))) (e_cons (e_prop cx 7 26 27 (e_own cx 16 25 (e_rd 0) snd_str)) e_nil))) (e_lc cx [("_law_name", 1)] (sni_e (e_stat0 cx 13 7 10)) (fun _ _ _ _ _ => (g_var (cx.blk) 1)) (fun _ _ _ _ _ => ts_nil) (fun _ _ _ _ _ => (e_own (cx.blk) 16 25 (e_rd 0) (e_rd 1))))))
      sns_nil)
theorem sc31 : FnScope N31 ["_law_groups_here", "_law_told_here"] (defScope st31) := ⟨rfl, rfl, rfl, by decide +kernel, rfl, by decide +kernel, by decide +kernel⟩
theorem bd31 (M : Mg K w mg tx) (ih : IH P w K mg base d) : Bd P w K mg base xr0 xm0 (cstG tx.cs) tab d N31 "_law_due" (defScope st31) f (defBody st31) fd31 := by
  intro cdv A outer s H E hr
  have cx := ct_of (xm := xm0) (cdv := cdv) (A := A) (outer := outer) (s := s) (H := H) (E := E) sc31 M ih hr
  exact (sns_cons (s_asg cx 2 (e_tuple cx (e_cons (e_lc cx [("_law_group", 3)] (sni_e (e_rd 0)) (fun _ _ _ _ _ => (g_var (cx.blk) 3)) (fun _ _ _ _ _ => ts_nil) (fun _ _ _ _ _ => (e_tuple (cx.blk) (e_cons (e_sorted (cx.blk) (e_cons (e_rd 3) e_nil)) e_nil)))) e_nil)))
      (sns_cons (sns_ret (snd_op (snd_lst (e_cons (e_rd 2) (e_cons (e_rd 2) e_nil))) (e_lc cx [("_law_name", 4)] (i_keys (e_call0 cx 25)) (fun _ _ _ _ _ => (g_var (cx.blk) 4)) (fun _ _ _ _ _ => ts_nil) (fun _ _ _ _ _ => (e_ix (cx.blk) (e_rd 1) (e_rd 4))))))
      sns_nil))
theorem sc32 : FnScope N32 ["_law_near", "_law_far"] (defScope st32) := ⟨rfl, rfl, rfl, by decide +kernel, rfl, by decide +kernel, by decide +kernel⟩
theorem bd32 (M : Mg K w mg tx) (ih : IH P w K mg base d) : Bd P w K mg base xr0 xm0 (cstG tx.cs) tab d N32 "_law_unlike" (defScope st32) f (defBody st32) fd32 := by
  intro cdv A outer s H E hr
  have cx := ct_of (xm := xm0) (cdv := cdv) (A := A) (outer := outer) (s := s) (H := H) (E := E) sc32 M ih hr
  exact (sns_cons (s_asg cx 2 (e_cmp cx (e_lc cx [("_law_group", 3)] (sni_e (e_ix cx (e_rd 0) snd_int)) (fun _ _ _ _ _ => (g_var (cx.blk) 3)) (fun _ _ _ _ _ => ts_nil) (fun _ _ _ _ _ => (e_tuple (cx.blk) (e_cons (e_sorted (cx.blk) (e_cons (e_rd 3) e_nil)) e_nil)))) (e_lc cx [("_law_group", 3)] (sni_e (e_ix cx (e_rd 1) snd_int)) (fun _ _ _ _ _ => (g_var (cx.blk) 3)) (fun _ _ _ _ _ => ts_nil) (fun _ _ _ _ _ => (e_tuple (cx.blk) (e_cons (e_sorted (cx.blk) (e_cons (e_rd 3) e_nil)) e_nil))))))
      (sns_cons (sns_ret (snd_op (snd_op (snd_lst (e_cons snd_str e_nil)) (e_toint cx (e_cons (e_rd 2) e_nil))) (e_lc cx [("_law_name", 4)] (i_keys (e_call0 cx 25)) (fun _ _ _ _ _ => (g_var (cx.blk) 4)) (fun _ _ _ _ _ => (ts_one (t_pe (e_cmp (cx.blk) (e_ix (cx.blk) (e_ix (cx.blk) (e_rd 0) snd_int) (e_rd 4)) (e_ix (cx.blk) (e_ix (cx.blk) (e_rd 1) snd_int) (e_rd 4)))))) (fun _ _ _ _ _ => (e_rd 4)))))
      sns_nil))
structure Fx (K : PySem.W.Frag) : Prop where
  f0 : ∃ fd, FunD K "is_integer" "is_integer" (defArgs st0) (defBody st0) (defScope st0) [] [] (Ad.at_ K (.glo "is_integer")) fd
  f1 : ∃ fd, FunD K "is_between" "is_between" (defArgs st1) (defBody st1) (defScope st1) [] [] (Ad.at_ K (.glo "is_between")) fd
  f2 : ∃ fd, FunD K "is_row" "is_row" (defArgs st2) (defBody st2) (defScope st2) [] [] (Ad.at_ K (.glo "is_row")) fd
  f3 : ∃ fd, FunD K "is_step" "is_step" (defArgs st3) (defBody st3) (defScope st3) [] [] (Ad.at_ K (.glo "is_step")) fd
  f4 : ∃ fd, FunD K "are_groups" "are_groups" (defArgs st4) (defBody st4) (defScope st4) [] [] (Ad.at_ K (.glo "are_groups")) fd
  f5 : ∃ fd, FunD K "__init__" "Plan.__init__" (defArgs st5) (defBody st5) (defScope st5) [] [] (Ad.at_ K (.met "Plan" "__init__")) fd
  f6 : ∃ fd, FunD K "of" "Plan.of" (defArgs st6) (defBody st6) (defScope st6) [] [] (Ad.at_ K (.stat "Plan" "of")) fd
  f7 : ∃ fd, FunD K "groups" "Plan.groups" (defArgs st7) (defBody st7) (defScope st7) [] [] (Ad.at_ K (.prop "Plan" "groups")) fd
  f8 : ∃ fd, FunD K "__eq__" "Plan.__eq__" (defArgs st8) (defBody st8) (defScope st8) [] [] (Ad.at_ K (.met "Plan" "__eq__")) fd
  f9 : ∃ fd, FunD K "is_name" "is_name" (defArgs st9) (defBody st9) (defScope st9) [] [] (Ad.at_ K (.glo "is_name")) fd
  f10 : ∃ fd, FunD K "fits" "fits" (defArgs st10) (defBody st10) (defScope st10) [] [] (Ad.at_ K (.glo "fits")) fd
  f11 : ∃ fd, FunD K "check_plan" "check_plan" (defArgs st11) (defBody st11) (defScope st11) [] [] (Ad.at_ K (.glo "check_plan")) fd
  f12 : ∃ fd, FunD K "__init__" "Rules.__init__" (defArgs st12) (defBody st12) (defScope st12) [] [("clear", .str "quiet"), ("flag", .str "ahead"), ("unflag", .str "ahead"), ("start", .str "flagged"), ("choice", .int 0), ("copied", .str "both"), ("lock", .str "lock"), ("held", .bl true), ("read", .str "source")] (Ad.at_ K (.met "Rules" "__init__")) fd
  f13 : ∃ fd, FunD K "names" "Rules.names" (defArgs st13) (defBody st13) (defScope st13) [] [] (Ad.at_ K (.stat "Rules" "names")) fd
  f14 : ∃ fd, FunD K "plan" "Rules.plan" (defArgs st14) (defBody st14) (defScope st14) [] [] (Ad.at_ K (.prop "Rules" "plan")) fd
  f15 : ∃ fd, FunD K "changed" "Rules.changed" (defArgs st15) (defBody st15) (defScope st15) [] [] (Ad.at_ K (.met "Rules" "changed")) fd
  f16 : ∃ fd, FunD K "__getitem__" "Rules.__getitem__" (defArgs st16) (defBody st16) (defScope st16) [] [] (Ad.at_ K (.met "Rules" "__getitem__")) fd
  f17 : ∃ fd, FunD K "__sub__" "Rules.__sub__" (defArgs st17) (defBody st17) (defScope st17) [] [] (Ad.at_ K (.met "Rules" "__sub__")) fd
  f18 : ∃ fd, FunD K "__eq__" "Rules.__eq__" (defArgs st18) (defBody st18) (defScope st18) [] [] (Ad.at_ K (.met "Rules" "__eq__")) fd
  f19 : ∃ fd, FunD K "unlike" "unlike" (defArgs st19) (defBody st19) (defScope st19) [] [] (Ad.at_ K (.glo "unlike")) fd
  f20 : ∃ fd, FunD K "_law_pool" "_law_pool" (defArgs st20) (defBody st20) (defScope st20) [] [] (Ad.at_ K (.glo "_law_pool")) fd
  f21 : ∃ fd, FunD K "_law_take" "_law_take" (defArgs st21) (defBody st21) (defScope st21) [] [] (Ad.at_ K (.glo "_law_take")) fd
  f22 : ∃ fd, FunD K "_law_one" "_law_one" (defArgs st22) (defBody st22) (defScope st22) [] [] (Ad.at_ K (.glo "_law_one")) fd
  f23 : ∃ fd, FunD K "_law_turned" "_law_turned" (defArgs st23) (defBody st23) (defScope st23) [] [] (Ad.at_ K (.glo "_law_turned")) fd
  f24 : ∃ fd, FunD K "_law_groups" "_law_groups" (defArgs st24) (defBody st24) (defScope st24) [] [] (Ad.at_ K (.glo "_law_groups")) fd
  f25 : ∃ fd, FunD K "_law_menu" "_law_menu" (defArgs st25) (defBody st25) (defScope st25) [] [] (Ad.at_ K (.glo "_law_menu")) fd
  f26 : ∃ fd, FunD K "_law_usual_choices" "_law_usual_choices" (defArgs st26) (defBody st26) (defScope st26) [] [] (Ad.at_ K (.glo "_law_usual_choices")) fd
  f27 : ∃ fd, FunD K "_law_choices" "_law_choices" (defArgs st27) (defBody st27) (defScope st27) [] [] (Ad.at_ K (.glo "_law_choices")) fd
  f28 : ∃ fd, FunD K "_law_rules" "_law_rules" (defArgs st28) (defBody st28) (defScope st28) [] [] (Ad.at_ K (.glo "_law_rules")) fd
  f29 : ∃ fd, FunD K "law" "law" (defArgs st29) (defBody st29) (defScope st29) [] [] (Ad.at_ K (.glo "law")) fd
  f30 : ∃ fd, FunD K "_law_told" "_law_told" (defArgs st30) (defBody st30) (defScope st30) [] [] (Ad.at_ K (.glo "_law_told")) fd
  f31 : ∃ fd, FunD K "_law_due" "_law_due" (defArgs st31) (defBody st31) (defScope st31) [] [] (Ad.at_ K (.glo "_law_due")) fd
  f32 : ∃ fd, FunD K "_law_unlike" "_law_unlike" (defArgs st32) (defBody st32) (defScope st32) [] [] (Ad.at_ K (.glo "_law_unlike")) fd
def ar0 : List Ar := [.p 0, .d 0 (.str "quiet"), .d 1 (.str "ahead"), .d 2 (.str "ahead"), .d 3 (.str "flagged"), .d 4 (.int 0), .d 5 (.str "both"), .d 6 (.str "lock"), .d 7 (.bl true), .d 8 (.str "source")]
theorem kb0 (F : FunD K "__init__" "Rules.__init__" (defArgs st12) (defBody st12) (defScope st12) [] [("clear", .str "quiet"), ("flag", .str "ahead"), ("unflag", .str "ahead"), ("start", .str "flagged"), ("choice", .int 0), ("copied", .str "both"), ("lock", .str "lock"), ("held", .bl true), ("read", .str "source")] (Ad.at_ K (.met "Rules" "__init__")) fd) : ∃ mv : List Value, KBn K fd ["self", "plan", "clear", "flag", "unflag", "start", "choice", "copied", "lock", "held", "read"] 2 [] (fun us ws => gA ar0 us mv ws) (fun vs zs => gA ar0 vs (([(.str "quiet"), (.str "ahead"), (.str "ahead"), (.str "flagged"), (.int 0), (.str "both"), (.str "lock"), (.bl true), (.str "source")] : List T).map litV) zs) :=
  FunD.kbinds0 F 2 [] [("clear", .str "quiet"), ("flag", .str "ahead"), ("unflag", .str "ahead"), ("start", .str "flagged"), ("choice", .int 0), ("copied", .str "both"), ("lock", .str "lock"), ("held", .bl true), ("read", .str "source")] (fun {α} => gA ar0) (by simp) (by simp) (gA_rel ar0) fun D doc pm an cdv ct us mv ws l1 l2 l3 => match us, mv, ws, l1, l2, l3 with
    | [_, _], [_, _, _, _, _, _, _, _, _], [], _, _, _ => ⟨_, _, _, _, _, _, rfl, rfl, ⟨_, _, _, _, _, _, rfl, rfl, ⟨_, _, _, _, _, _, rfl, rfl, ⟨_, _, _, _, _, _, rfl, rfl, ⟨_, _, _, _, _, _, rfl, rfl, ⟨_, _, _, _, _, _, rfl, rfl, ⟨_, _, _, _, _, _, rfl, rfl, ⟨_, _, _, _, _, _, rfl, rfl, ⟨_, _, _, _, _, _, rfl, rfl, rfl⟩⟩⟩⟩⟩⟩⟩⟩⟩
def ar1 : List Ar := [.p 0, .k 0, .k 1, .k 2, .k 3, .k 4, .k 5, .k 6, .k 7, .k 8]
theorem kb1 (F : FunD K "__init__" "Rules.__init__" (defArgs st12) (defBody st12) (defScope st12) [] [("clear", .str "quiet"), ("flag", .str "ahead"), ("unflag", .str "ahead"), ("start", .str "flagged"), ("choice", .int 0), ("copied", .str "both"), ("lock", .str "lock"), ("held", .bl true), ("read", .str "source")] (Ad.at_ K (.met "Rules" "__init__")) fd) : ∃ mv : List Value, KBn K fd ["self", "plan", "clear", "flag", "unflag", "start", "choice", "copied", "lock", "held", "read"] 2 ["clear", "flag", "unflag", "start", "choice", "copied", "lock", "held", "read"] (fun us ws => gA ar1 us mv ws) (fun vs zs => gA ar1 vs (([] : List T).map litV) zs) :=
  FunD.kbinds0 F 2 ["clear", "flag", "unflag", "start", "choice", "copied", "lock", "held", "read"] [] (fun {α} => gA ar1) (by simp) (by simp) (gA_rel ar1) fun D doc pm an cdv ct us mv ws l1 l2 l3 => match us, mv, ws, l1, l2, l3 with
    | [_, _], [], [_, _, _, _, _, _, _, _, _], _, _, _ => rfl
theorem zero (M : Mg K w mg tx) (F : Fx K) : IH P w K mg base 0 where
  fn := fun i a io n h => match i, h with
  | 0, h => by
    cases (show some (some ((.glo "is_integer" : Ad), ([] : List Nat), 1)) = some (some (a, io, n)) from h)
    obtain ⟨fd, F1⟩ := F.f0
    exact mkA0 (ps := ["thing"]) F1 rfl (fun _ _ _ _ _ _ us hl => match us, hl with | [_], _ => rfl)
  | 1, h => by
    cases (show some (some ((.glo "is_between" : Ad), ([] : List Nat), 3)) = some (some (a, io, n)) from h)
    obtain ⟨fd, F1⟩ := F.f1
    exact mkA0 (ps := ["thing", "least", "most"]) F1 rfl (fun _ _ _ _ _ _ us hl => match us, hl with | [_, _, _], _ => rfl)
  | 2, h => by
    cases (show some (some ((.glo "is_row" : Ad), ([] : List Nat), 1)) = some (some (a, io, n)) from h)
    obtain ⟨fd, F1⟩ := F.f2
    exact mkA0 (ps := ["thing"]) F1 rfl (fun _ _ _ _ _ _ us hl => match us, hl with | [_], _ => rfl)
  | 3, h => by
    cases (show some (some ((.glo "is_step" : Ad), ([] : List Nat), 1)) = some (some (a, io, n)) from h)
    obtain ⟨fd, F1⟩ := F.f3
    exact mkA0 (ps := ["thing"]) F1 rfl (fun _ _ _ _ _ _ us hl => match us, hl with | [_], _ => rfl)
  | 4, h => by
    cases (show some (some ((.glo "are_groups" : Ad), ([] : List Nat), 1)) = some (some (a, io, n)) from h)
    obtain ⟨fd, F1⟩ := F.f4
    exact mkA0 (ps := ["thing"]) F1 rfl (fun _ _ _ _ _ _ us hl => match us, hl with | [_], _ => rfl)
  | 5, h => nomatch (show some none = some (some (a, io, n)) from h)
  | 6, h => by
    cases (show some (some ((.stat "Plan" "of" : Ad), ([] : List Nat), 1)) = some (some (a, io, n)) from h)
    obtain ⟨fd, F1⟩ := F.f6
    exact mkA0 (ps := ["groups"]) F1 rfl (fun _ _ _ _ _ _ us hl => match us, hl with | [_], _ => rfl)
  | 7, h => by
    cases (show some (some ((.prop "Plan" "groups" : Ad), ([] : List Nat), 1)) = some (some (a, io, n)) from h)
    obtain ⟨fd, F1⟩ := F.f7
    exact mkA0 (ps := ["self"]) F1 rfl (fun _ _ _ _ _ _ us hl => match us, hl with | [_], _ => rfl)
  | 8, h => by
    cases (show some (some ((.met "Plan" "__eq__" : Ad), ([] : List Nat), 2)) = some (some (a, io, n)) from h)
    obtain ⟨fd, F1⟩ := F.f8
    exact mkA0 (ps := ["self", "other"]) F1 rfl (fun _ _ _ _ _ _ us hl => match us, hl with | [_, _], _ => rfl)
  | 9, h => by
    cases (show some (some ((.glo "is_name" : Ad), ([] : List Nat), 1)) = some (some (a, io, n)) from h)
    obtain ⟨fd, F1⟩ := F.f9
    exact mkA0 (ps := ["thing"]) F1 rfl (fun _ _ _ _ _ _ us hl => match us, hl with | [_], _ => rfl)
  | 10, h => by
    cases (show some (some ((.glo "fits" : Ad), ([] : List Nat), 2)) = some (some (a, io, n)) from h)
    obtain ⟨fd, F1⟩ := F.f10
    exact mkA0 (ps := ["name", "value"]) F1 rfl (fun _ _ _ _ _ _ us hl => match us, hl with | [_, _], _ => rfl)
  | 11, h => by
    cases (show some (some ((.glo "check_plan" : Ad), ([] : List Nat), 1)) = some (some (a, io, n)) from h)
    obtain ⟨fd, F1⟩ := F.f11
    exact mkA0 (ps := ["plan"]) F1 rfl (fun _ _ _ _ _ _ us hl => match us, hl with | [_], _ => rfl)
  | 12, h => nomatch (show some none = some (some (a, io, n)) from h)
  | 13, h => by
    cases (show some (some ((.stat "Rules" "names" : Ad), ([] : List Nat), 0)) = some (some (a, io, n)) from h)
    obtain ⟨fd, F1⟩ := F.f13
    exact mkA0 (ps := []) F1 rfl (fun _ _ _ _ _ _ us hl => match us, hl with | [], _ => rfl)
  | 14, h => by
    cases (show some (some ((.prop "Rules" "plan" : Ad), ([] : List Nat), 1)) = some (some (a, io, n)) from h)
    obtain ⟨fd, F1⟩ := F.f14
    exact mkA0 (ps := ["self"]) F1 rfl (fun _ _ _ _ _ _ us hl => match us, hl with | [_], _ => rfl)
  | 15, h => by
    cases (show some (some ((.met "Rules" "changed" : Ad), ([] : List Nat), 3)) = some (some (a, io, n)) from h)
    obtain ⟨fd, F1⟩ := F.f15
    exact mkA0 (ps := ["self", "name", "value"]) F1 rfl (fun _ _ _ _ _ _ us hl => match us, hl with | [_, _, _], _ => rfl)
  | 16, h => by
    cases (show some (some ((.met "Rules" "__getitem__" : Ad), ([] : List Nat), 2)) = some (some (a, io, n)) from h)
    obtain ⟨fd, F1⟩ := F.f16
    exact mkA0 (ps := ["self", "name"]) F1 rfl (fun _ _ _ _ _ _ us hl => match us, hl with | [_, _], _ => rfl)
  | 17, h => by
    cases (show some (some ((.met "Rules" "__sub__" : Ad), ([] : List Nat), 2)) = some (some (a, io, n)) from h)
    obtain ⟨fd, F1⟩ := F.f17
    exact mkA0 (ps := ["self", "other"]) F1 rfl (fun _ _ _ _ _ _ us hl => match us, hl with | [_, _], _ => rfl)
  | 18, h => by
    cases (show some (some ((.met "Rules" "__eq__" : Ad), ([] : List Nat), 2)) = some (some (a, io, n)) from h)
    obtain ⟨fd, F1⟩ := F.f18
    exact mkA0 (ps := ["self", "other"]) F1 rfl (fun _ _ _ _ _ _ us hl => match us, hl with | [_, _], _ => rfl)
  | 19, h => by
    cases (show some (some ((.glo "unlike" : Ad), ([] : List Nat), 2)) = some (some (a, io, n)) from h)
    obtain ⟨fd, F1⟩ := F.f19
    exact mkA0 (ps := ["one", "other"]) F1 rfl (fun _ _ _ _ _ _ us hl => match us, hl with | [_, _], _ => rfl)
  | 20, h => by
    cases (show some (some ((.glo "_law_pool" : Ad), ([] : List Nat), 2)) = some (some (a, io, n)) from h)
    obtain ⟨fd, F1⟩ := F.f20
    exact mkA0 (ps := ["_law_script", "_law_k"]) F1 rfl (fun _ _ _ _ _ _ us hl => match us, hl with | [_, _], _ => rfl)
  | 21, h => by
    cases (show some (some ((.glo "_law_take" : Ad), ([0] : List Nat), 2)) = some (some (a, io, n)) from h)
    obtain ⟨fd, F1⟩ := F.f21
    exact mkA0 (ps := ["_law_pool_here", "_law_bound"]) F1 rfl (fun _ _ _ _ _ _ us hl => match us, hl with | [_, _], _ => rfl)
  | 22, h => by
    cases (show some (some ((.glo "_law_one" : Ad), ([0] : List Nat), 2)) = some (some (a, io, n)) from h)
    obtain ⟨fd, F1⟩ := F.f22
    exact mkA0 (ps := ["_law_pool_here", "_law_things"]) F1 rfl (fun _ _ _ _ _ _ us hl => match us, hl with | [_, _], _ => rfl)
  | 23, h => by
    cases (show some (some ((.glo "_law_turned" : Ad), ([0] : List Nat), 2)) = some (some (a, io, n)) from h)
    obtain ⟨fd, F1⟩ := F.f23
    exact mkA0 (ps := ["_law_pool_here", "_law_things"]) F1 rfl (fun _ _ _ _ _ _ us hl => match us, hl with | [_, _], _ => rfl)
  | 24, h => by
    cases (show some (some ((.glo "_law_groups" : Ad), ([0] : List Nat), 1)) = some (some (a, io, n)) from h)
    obtain ⟨fd, F1⟩ := F.f24
    exact mkA0 (ps := ["_law_pool_here"]) F1 rfl (fun _ _ _ _ _ _ us hl => match us, hl with | [_], _ => rfl)
  | 25, h => by
    cases (show some (some ((.glo "_law_menu" : Ad), ([] : List Nat), 0)) = some (some (a, io, n)) from h)
    obtain ⟨fd, F1⟩ := F.f25
    exact mkA0 (ps := []) F1 rfl (fun _ _ _ _ _ _ us hl => match us, hl with | [], _ => rfl)
  | 26, h => by
    cases (show some (some ((.glo "_law_usual_choices" : Ad), ([] : List Nat), 0)) = some (some (a, io, n)) from h)
    obtain ⟨fd, F1⟩ := F.f26
    exact mkA0 (ps := []) F1 rfl (fun _ _ _ _ _ _ us hl => match us, hl with | [], _ => rfl)
  | 27, h => by
    cases (show some (some ((.glo "_law_choices" : Ad), ([0] : List Nat), 1)) = some (some (a, io, n)) from h)
    obtain ⟨fd, F1⟩ := F.f27
    exact mkA0 (ps := ["_law_pool_here"]) F1 rfl (fun _ _ _ _ _ _ us hl => match us, hl with | [_], _ => rfl)
  | 28, h => by
    cases (show some (some ((.glo "_law_rules" : Ad), ([] : List Nat), 2)) = some (some (a, io, n)) from h)
    obtain ⟨fd, F1⟩ := F.f28
    exact mkA0 (ps := ["_law_groups_here", "_law_own"]) F1 rfl (fun _ _ _ _ _ _ us hl => match us, hl with | [_, _], _ => rfl)
  | 29, h => by
    cases (show some (some ((.glo "law" : Ad), ([] : List Nat), 1)) = some (some (a, io, n)) from h)
    obtain ⟨fd, F1⟩ := F.f29
    exact mkA0 (ps := ["_law_script"]) F1 rfl (fun _ _ _ _ _ _ us hl => match us, hl with | [_], _ => rfl)
  | 30, h => by
    cases (show some (some ((.glo "_law_told" : Ad), ([] : List Nat), 1)) = some (some (a, io, n)) from h)
    obtain ⟨fd, F1⟩ := F.f30
    exact mkA0 (ps := ["_law_rules_here"]) F1 rfl (fun _ _ _ _ _ _ us hl => match us, hl with | [_], _ => rfl)
  | 31, h => by
    cases (show some (some ((.glo "_law_due" : Ad), ([] : List Nat), 2)) = some (some (a, io, n)) from h)
    obtain ⟨fd, F1⟩ := F.f31
    exact mkA0 (ps := ["_law_groups_here", "_law_told_here"]) F1 rfl (fun _ _ _ _ _ _ us hl => match us, hl with | [_, _], _ => rfl)
  | 32, h => by
    cases (show some (some ((.glo "_law_unlike" : Ad), ([] : List Nat), 2)) = some (some (a, io, n)) from h)
    obtain ⟨fd, F1⟩ := F.f32
    exact mkA0 (ps := ["_law_near", "_law_far"]) F1 rfl (fun _ _ _ _ _ _ us hl => match us, hl with | [_, _], _ => rfl)
  | k + 33, h => nomatch (show none = some (some (a, io, n)) from h)
  mks := fun i m h => match i, h with
  | 0, h => by
    cases (show some (⟨"Rules", 12, 1, [], [.p 0, .d 0 (.str "quiet"), .d 1 (.str "ahead"), .d 2 (.str "ahead"), .d 3 (.str "flagged"), .d 4 (.int 0), .d 5 (.str "both"), .d 6 (.str "lock"), .d 7 (.bl true), .d 8 (.str "source")], [(.str "quiet"), (.str "ahead"), (.str "ahead"), (.str "flagged"), (.int 0), (.str "both"), (.str "lock"), (.bl true), (.str "source")]⟩ : MkI) = some m from h)
    obtain ⟨fd, F1⟩ := F.f12
    exact mkM0 (M.fc 4 _ rfl) F1 rfl (kb0 F1) (by simp [ArOk, litB])
  | 1, h => by
    cases (show some (⟨"Rules", 12, 1, ["clear", "flag", "unflag", "start", "choice", "copied", "lock", "held", "read"], [.p 0, .k 0, .k 1, .k 2, .k 3, .k 4, .k 5, .k 6, .k 7, .k 8], []⟩ : MkI) = some m from h)
    obtain ⟨fd, F1⟩ := F.f12
    exact mkM0 (M.fc 4 _ rfl) F1 rfl (kb1 F1) (by simp [ArOk, litB])
  | k + 2, h => nomatch (show none = some m from h)
  ms := fun i c f h => match i, h with
  | 0, h => by
    cases (show some (("Plan" : Str), 5) = some (c, f) from h)
    obtain ⟨fd, F1⟩ := F.f5
    exact mkR0 (M.fc 21 _ rfl)
  | k + 1, h => nomatch (show none = some (c, f) from h)
theorem step (M : Mg K w mg tx) (F : Fx K) (ih : IH P w K mg base d) : IH P w K mg base (d + 1) where
  fn := fun i a io n h => match i, h with
  | 0, h => by
    cases (show some (some ((.glo "is_integer" : Ad), ([] : List Nat), 1)) = some (some (a, io, n)) from h)
    obtain ⟨fd, F1⟩ := F.f0
    exact mkA (fd0 := Sh.fd0) F1 sc0 rfl rfl rfl rfl rfl (by decide) rfl (fun _ _ _ _ _ _ us hl => match us, hl with | [_], _ => rfl) (bd0 M ih)
  | 1, h => by
    cases (show some (some ((.glo "is_between" : Ad), ([] : List Nat), 3)) = some (some (a, io, n)) from h)
    obtain ⟨fd, F1⟩ := F.f1
    exact mkA (fd0 := Sh.fd1) F1 sc1 rfl rfl rfl rfl rfl (by decide) rfl (fun _ _ _ _ _ _ us hl => match us, hl with | [_, _, _], _ => rfl) (bd1 M ih)
  | 2, h => by
    cases (show some (some ((.glo "is_row" : Ad), ([] : List Nat), 1)) = some (some (a, io, n)) from h)
    obtain ⟨fd, F1⟩ := F.f2
    exact mkA (fd0 := Sh.fd2) F1 sc2 rfl rfl rfl rfl rfl (by decide) rfl (fun _ _ _ _ _ _ us hl => match us, hl with | [_], _ => rfl) (bd2 M ih)
  | 3, h => by
    cases (show some (some ((.glo "is_step" : Ad), ([] : List Nat), 1)) = some (some (a, io, n)) from h)
    obtain ⟨fd, F1⟩ := F.f3
    exact mkA (fd0 := Sh.fd3) F1 sc3 rfl rfl rfl rfl rfl (by decide) rfl (fun _ _ _ _ _ _ us hl => match us, hl with | [_], _ => rfl) (bd3 M ih)
  | 4, h => by
    cases (show some (some ((.glo "are_groups" : Ad), ([] : List Nat), 1)) = some (some (a, io, n)) from h)
    obtain ⟨fd, F1⟩ := F.f4
    exact mkA (fd0 := Sh.fd4) F1 sc4 rfl rfl rfl rfl rfl (by decide) rfl (fun _ _ _ _ _ _ us hl => match us, hl with | [_], _ => rfl) (bd4 M ih)
  | 5, h => nomatch (show some none = some (some (a, io, n)) from h)
  | 6, h => by
    cases (show some (some ((.stat "Plan" "of" : Ad), ([] : List Nat), 1)) = some (some (a, io, n)) from h)
    obtain ⟨fd, F1⟩ := F.f6
    exact mkA (fd0 := Sh.fd6) F1 sc6 rfl rfl rfl rfl rfl (by decide) rfl (fun _ _ _ _ _ _ us hl => match us, hl with | [_], _ => rfl) (bd6 M ih)
  | 7, h => by
    cases (show some (some ((.prop "Plan" "groups" : Ad), ([] : List Nat), 1)) = some (some (a, io, n)) from h)
    obtain ⟨fd, F1⟩ := F.f7
    exact mkA (fd0 := Sh.fd7) F1 sc7 rfl rfl rfl rfl rfl (by decide) rfl (fun _ _ _ _ _ _ us hl => match us, hl with | [_], _ => rfl) (bd7 M ih)
  | 8, h => by
    cases (show some (some ((.met "Plan" "__eq__" : Ad), ([] : List Nat), 2)) = some (some (a, io, n)) from h)
    obtain ⟨fd, F1⟩ := F.f8
    exact mkA (fd0 := Sh.fd8) F1 sc8 rfl rfl rfl rfl rfl (by decide) rfl (fun _ _ _ _ _ _ us hl => match us, hl with | [_, _], _ => rfl) (bd8 M ih)
  | 9, h => by
    cases (show some (some ((.glo "is_name" : Ad), ([] : List Nat), 1)) = some (some (a, io, n)) from h)
    obtain ⟨fd, F1⟩ := F.f9
    exact mkA (fd0 := Sh.fd9) F1 sc9 rfl rfl rfl rfl rfl (by decide) rfl (fun _ _ _ _ _ _ us hl => match us, hl with | [_], _ => rfl) (bd9 M ih)
  | 10, h => by
    cases (show some (some ((.glo "fits" : Ad), ([] : List Nat), 2)) = some (some (a, io, n)) from h)
    obtain ⟨fd, F1⟩ := F.f10
    exact mkA (fd0 := Sh.fd10) F1 sc10 rfl rfl rfl rfl rfl (by decide) rfl (fun _ _ _ _ _ _ us hl => match us, hl with | [_, _], _ => rfl) (bd10 M ih)
  | 11, h => by
    cases (show some (some ((.glo "check_plan" : Ad), ([] : List Nat), 1)) = some (some (a, io, n)) from h)
    obtain ⟨fd, F1⟩ := F.f11
    exact mkA (fd0 := Sh.fd11) F1 sc11 rfl rfl rfl rfl rfl (by decide) rfl (fun _ _ _ _ _ _ us hl => match us, hl with | [_], _ => rfl) (bd11 M ih)
  | 12, h => nomatch (show some none = some (some (a, io, n)) from h)
  | 13, h => by
    cases (show some (some ((.stat "Rules" "names" : Ad), ([] : List Nat), 0)) = some (some (a, io, n)) from h)
    obtain ⟨fd, F1⟩ := F.f13
    exact mkA (fd0 := Sh.fd13) F1 sc13 rfl rfl rfl rfl rfl (by decide) rfl (fun _ _ _ _ _ _ us hl => match us, hl with | [], _ => rfl) (bd13 M ih)
  | 14, h => by
    cases (show some (some ((.prop "Rules" "plan" : Ad), ([] : List Nat), 1)) = some (some (a, io, n)) from h)
    obtain ⟨fd, F1⟩ := F.f14
    exact mkA (fd0 := Sh.fd14) F1 sc14 rfl rfl rfl rfl rfl (by decide) rfl (fun _ _ _ _ _ _ us hl => match us, hl with | [_], _ => rfl) (bd14 M ih)
  | 15, h => by
    cases (show some (some ((.met "Rules" "changed" : Ad), ([] : List Nat), 3)) = some (some (a, io, n)) from h)
    obtain ⟨fd, F1⟩ := F.f15
    exact mkA (fd0 := Sh.fd15) F1 sc15 rfl rfl rfl rfl rfl (by decide) rfl (fun _ _ _ _ _ _ us hl => match us, hl with | [_, _, _], _ => rfl) (bd15 M ih)
  | 16, h => by
    cases (show some (some ((.met "Rules" "__getitem__" : Ad), ([] : List Nat), 2)) = some (some (a, io, n)) from h)
    obtain ⟨fd, F1⟩ := F.f16
    exact mkA (fd0 := Sh.fd16) F1 sc16 rfl rfl rfl rfl rfl (by decide) rfl (fun _ _ _ _ _ _ us hl => match us, hl with | [_, _], _ => rfl) (bd16 M ih)
  | 17, h => by
    cases (show some (some ((.met "Rules" "__sub__" : Ad), ([] : List Nat), 2)) = some (some (a, io, n)) from h)
    obtain ⟨fd, F1⟩ := F.f17
    exact mkA (fd0 := Sh.fd17) F1 sc17 rfl rfl rfl rfl rfl (by decide) rfl (fun _ _ _ _ _ _ us hl => match us, hl with | [_, _], _ => rfl) (bd17 M ih)
  | 18, h => by
    cases (show some (some ((.met "Rules" "__eq__" : Ad), ([] : List Nat), 2)) = some (some (a, io, n)) from h)
    obtain ⟨fd, F1⟩ := F.f18
    exact mkA (fd0 := Sh.fd18) F1 sc18 rfl rfl rfl rfl rfl (by decide) rfl (fun _ _ _ _ _ _ us hl => match us, hl with | [_, _], _ => rfl) (bd18 M ih)
  | 19, h => by
    cases (show some (some ((.glo "unlike" : Ad), ([] : List Nat), 2)) = some (some (a, io, n)) from h)
    obtain ⟨fd, F1⟩ := F.f19
    exact mkA (fd0 := Sh.fd19) F1 sc19 rfl rfl rfl rfl rfl (by decide) rfl (fun _ _ _ _ _ _ us hl => match us, hl with | [_, _], _ => rfl) (bd19 M ih)
  | 20, h => by
    cases (show some (some ((.glo "_law_pool" : Ad), ([] : List Nat), 2)) = some (some (a, io, n)) from h)
    obtain ⟨fd, F1⟩ := F.f20
    exact mkA (fd0 := Sh.fd20) F1 sc20 rfl rfl rfl rfl rfl (by decide) rfl (fun _ _ _ _ _ _ us hl => match us, hl with | [_, _], _ => rfl) (bd20 M ih)
  | 21, h => by
    cases (show some (some ((.glo "_law_take" : Ad), ([0] : List Nat), 2)) = some (some (a, io, n)) from h)
    obtain ⟨fd, F1⟩ := F.f21
    exact mkA (fd0 := Sh.fd21) F1 sc21 rfl rfl rfl rfl rfl (by decide) rfl (fun _ _ _ _ _ _ us hl => match us, hl with | [_, _], _ => rfl) (bd21 M ih)
  | 22, h => by
    cases (show some (some ((.glo "_law_one" : Ad), ([0] : List Nat), 2)) = some (some (a, io, n)) from h)
    obtain ⟨fd, F1⟩ := F.f22
    exact mkA (fd0 := Sh.fd22) F1 sc22 rfl rfl rfl rfl rfl (by decide) rfl (fun _ _ _ _ _ _ us hl => match us, hl with | [_, _], _ => rfl) (bd22 M ih)
  | 23, h => by
    cases (show some (some ((.glo "_law_turned" : Ad), ([0] : List Nat), 2)) = some (some (a, io, n)) from h)
    obtain ⟨fd, F1⟩ := F.f23
    exact mkA (fd0 := Sh.fd23) F1 sc23 rfl rfl rfl rfl rfl (by decide) rfl (fun _ _ _ _ _ _ us hl => match us, hl with | [_, _], _ => rfl) (bd23 M ih)
  | 24, h => by
    cases (show some (some ((.glo "_law_groups" : Ad), ([0] : List Nat), 1)) = some (some (a, io, n)) from h)
    obtain ⟨fd, F1⟩ := F.f24
    exact mkA (fd0 := Sh.fd24) F1 sc24 rfl rfl rfl rfl rfl (by decide) rfl (fun _ _ _ _ _ _ us hl => match us, hl with | [_], _ => rfl) (bd24 M ih)
  | 25, h => by
    cases (show some (some ((.glo "_law_menu" : Ad), ([] : List Nat), 0)) = some (some (a, io, n)) from h)
    obtain ⟨fd, F1⟩ := F.f25
    exact mkA (fd0 := Sh.fd25) F1 sc25 rfl rfl rfl rfl rfl (by decide) rfl (fun _ _ _ _ _ _ us hl => match us, hl with | [], _ => rfl) (bd25 M ih)
  | 26, h => by
    cases (show some (some ((.glo "_law_usual_choices" : Ad), ([] : List Nat), 0)) = some (some (a, io, n)) from h)
    obtain ⟨fd, F1⟩ := F.f26
    exact mkA (fd0 := Sh.fd26) F1 sc26 rfl rfl rfl rfl rfl (by decide) rfl (fun _ _ _ _ _ _ us hl => match us, hl with | [], _ => rfl) (bd26 M ih)
  | 27, h => by
    cases (show some (some ((.glo "_law_choices" : Ad), ([0] : List Nat), 1)) = some (some (a, io, n)) from h)
    obtain ⟨fd, F1⟩ := F.f27
    exact mkA (fd0 := Sh.fd27) F1 sc27 rfl rfl rfl rfl rfl (by decide) rfl (fun _ _ _ _ _ _ us hl => match us, hl with | [_], _ => rfl) (bd27 M ih)
  | 28, h => by
    cases (show some (some ((.glo "_law_rules" : Ad), ([] : List Nat), 2)) = some (some (a, io, n)) from h)
    obtain ⟨fd, F1⟩ := F.f28
    exact mkA (fd0 := Sh.fd28) F1 sc28 rfl rfl rfl rfl rfl (by decide) rfl (fun _ _ _ _ _ _ us hl => match us, hl with | [_, _], _ => rfl) (bd28 M ih)
  | 29, h => by
    cases (show some (some ((.glo "law" : Ad), ([] : List Nat), 1)) = some (some (a, io, n)) from h)
    obtain ⟨fd, F1⟩ := F.f29
    exact mkA (fd0 := fd29) F1 sc29 rfl rfl rfl rfl rfl (by decide) rfl (fun _ _ _ _ _ _ us hl => match us, hl with | [_], _ => rfl) (bd29 M ih)
  | 30, h => by
    cases (show some (some ((.glo "_law_told" : Ad), ([] : List Nat), 1)) = some (some (a, io, n)) from h)
    obtain ⟨fd, F1⟩ := F.f30
    exact mkA (fd0 := fd30) F1 sc30 rfl rfl rfl rfl rfl (by decide) rfl (fun _ _ _ _ _ _ us hl => match us, hl with | [_], _ => rfl) (bd30 M ih)
  | 31, h => by
    cases (show some (some ((.glo "_law_due" : Ad), ([] : List Nat), 2)) = some (some (a, io, n)) from h)
    obtain ⟨fd, F1⟩ := F.f31
    exact mkA (fd0 := fd31) F1 sc31 rfl rfl rfl rfl rfl (by decide) rfl (fun _ _ _ _ _ _ us hl => match us, hl with | [_, _], _ => rfl) (bd31 M ih)
  | 32, h => by
    cases (show some (some ((.glo "_law_unlike" : Ad), ([] : List Nat), 2)) = some (some (a, io, n)) from h)
    obtain ⟨fd, F1⟩ := F.f32
    exact mkA (fd0 := fd32) F1 sc32 rfl rfl rfl rfl rfl (by decide) rfl (fun _ _ _ _ _ _ us hl => match us, hl with | [_, _], _ => rfl) (bd32 M ih)
  | k + 33, h => nomatch (show none = some (some (a, io, n)) from h)
  mks := fun i m h => match i, h with
  | 0, h => by
    cases (show some (⟨"Rules", 12, 1, [], [.p 0, .d 0 (.str "quiet"), .d 1 (.str "ahead"), .d 2 (.str "ahead"), .d 3 (.str "flagged"), .d 4 (.int 0), .d 5 (.str "both"), .d 6 (.str "lock"), .d 7 (.bl true), .d 8 (.str "source")], [(.str "quiet"), (.str "ahead"), (.str "ahead"), (.str "flagged"), (.int 0), (.str "both"), (.str "lock"), (.bl true), (.str "source")]⟩ : MkI) = some m from h)
    obtain ⟨fd, F1⟩ := F.f12
    exact mkM (fd0 := Sh.fd12) (M.fc 4 _ rfl) F1 sc12 rfl rfl rfl rfl rfl (by decide) rfl (kb0 F1) (by simp [ArOk, litB]) (bd12 M ih)
  | 1, h => by
    cases (show some (⟨"Rules", 12, 1, ["clear", "flag", "unflag", "start", "choice", "copied", "lock", "held", "read"], [.p 0, .k 0, .k 1, .k 2, .k 3, .k 4, .k 5, .k 6, .k 7, .k 8], []⟩ : MkI) = some m from h)
    obtain ⟨fd, F1⟩ := F.f12
    exact mkM (fd0 := Sh.fd12) (M.fc 4 _ rfl) F1 sc12 rfl rfl rfl rfl rfl (by decide) rfl (kb1 F1) (by simp [ArOk, litB]) (bd12 M ih)
  | k + 2, h => nomatch (show none = some m from h)
  ms := fun i c f h => match i, h with
  | 0, h => by
    cases (show some (("Plan" : Str), 5) = some (c, f) from h)
    obtain ⟨fd, F1⟩ := F.f5
    exact mkR (fd0 := Sh.fd5) (ps := ["self"]) (pv := "groups") (M.fc 21 _ rfl) F1 sc5 rfl rfl rfl rfl rfl (fun _ _ _ _ _ _ us rest hl => match us, rest, hl with | [_], [], _ => rfl | [_], _ :: _, _ => rfl) (bd5 M ih)
  | k + 1, h => nomatch (show none = some (c, f) from h)
theorem all_ok (M : Mg K w mg tx) (F : Fx K) : ∀ d, IH P w K mg base d
  | 0 => zero M F
  | d + 1 => step M F (all_ok M F d)
end
def dd0 : He5.DefA := ⟨fun K => Ad.at_ K (.glo "is_integer"), "is_integer", "is_integer", defArgs st0, defBody st0, defScope st0, [], []⟩
def dd1 : He5.DefA := ⟨fun K => Ad.at_ K (.glo "is_between"), "is_between", "is_between", defArgs st1, defBody st1, defScope st1, [], []⟩
def dd2 : He5.DefA := ⟨fun K => Ad.at_ K (.glo "is_row"), "is_row", "is_row", defArgs st2, defBody st2, defScope st2, [], []⟩
def dd3 : He5.DefA := ⟨fun K => Ad.at_ K (.glo "is_step"), "is_step", "is_step", defArgs st3, defBody st3, defScope st3, [], []⟩
def dd4 : He5.DefA := ⟨fun K => Ad.at_ K (.glo "are_groups"), "are_groups", "are_groups", defArgs st4, defBody st4, defScope st4, [], []⟩
def dd5 : He5.DefA := ⟨fun K => Ad.at_ K (.met "Plan" "__init__"), "__init__", "Plan.__init__", defArgs st5, defBody st5, defScope st5, [], []⟩
def dd6 : He5.DefA := ⟨fun K => Ad.at_ K (.stat "Plan" "of"), "of", "Plan.of", defArgs st6, defBody st6, defScope st6, [], []⟩
def dd7 : He5.DefA := ⟨fun K => Ad.at_ K (.prop "Plan" "groups"), "groups", "Plan.groups", defArgs st7, defBody st7, defScope st7, [], []⟩
def dd8 : He5.DefA := ⟨fun K => Ad.at_ K (.met "Plan" "__eq__"), "__eq__", "Plan.__eq__", defArgs st8, defBody st8, defScope st8, [], []⟩
def dd9 : He5.DefA := ⟨fun K => Ad.at_ K (.glo "is_name"), "is_name", "is_name", defArgs st9, defBody st9, defScope st9, [], []⟩
def dd10 : He5.DefA := ⟨fun K => Ad.at_ K (.glo "fits"), "fits", "fits", defArgs st10, defBody st10, defScope st10, [], []⟩
def dd11 : He5.DefA := ⟨fun K => Ad.at_ K (.glo "check_plan"), "check_plan", "check_plan", defArgs st11, defBody st11, defScope st11, [], []⟩
def dd12 : He5.DefA := ⟨fun K => Ad.at_ K (.met "Rules" "__init__"), "__init__", "Rules.__init__", defArgs st12, defBody st12, defScope st12, [], [("clear", .str "quiet"), ("flag", .str "ahead"), ("unflag", .str "ahead"), ("start", .str "flagged"), ("choice", .int 0), ("copied", .str "both"), ("lock", .str "lock"), ("held", .bl true), ("read", .str "source")]⟩
def dd13 : He5.DefA := ⟨fun K => Ad.at_ K (.stat "Rules" "names"), "names", "Rules.names", defArgs st13, defBody st13, defScope st13, [], []⟩
def dd14 : He5.DefA := ⟨fun K => Ad.at_ K (.prop "Rules" "plan"), "plan", "Rules.plan", defArgs st14, defBody st14, defScope st14, [], []⟩
def dd15 : He5.DefA := ⟨fun K => Ad.at_ K (.met "Rules" "changed"), "changed", "Rules.changed", defArgs st15, defBody st15, defScope st15, [], []⟩
def dd16 : He5.DefA := ⟨fun K => Ad.at_ K (.met "Rules" "__getitem__"), "__getitem__", "Rules.__getitem__", defArgs st16, defBody st16, defScope st16, [], []⟩
def dd17 : He5.DefA := ⟨fun K => Ad.at_ K (.met "Rules" "__sub__"), "__sub__", "Rules.__sub__", defArgs st17, defBody st17, defScope st17, [], []⟩
def dd18 : He5.DefA := ⟨fun K => Ad.at_ K (.met "Rules" "__eq__"), "__eq__", "Rules.__eq__", defArgs st18, defBody st18, defScope st18, [], []⟩
def dd19 : He5.DefA := ⟨fun K => Ad.at_ K (.glo "unlike"), "unlike", "unlike", defArgs st19, defBody st19, defScope st19, [], []⟩
def dd20 : He5.DefA := ⟨fun K => Ad.at_ K (.glo "_law_pool"), "_law_pool", "_law_pool", defArgs st20, defBody st20, defScope st20, [], []⟩
def dd21 : He5.DefA := ⟨fun K => Ad.at_ K (.glo "_law_take"), "_law_take", "_law_take", defArgs st21, defBody st21, defScope st21, [], []⟩
def dd22 : He5.DefA := ⟨fun K => Ad.at_ K (.glo "_law_one"), "_law_one", "_law_one", defArgs st22, defBody st22, defScope st22, [], []⟩
def dd23 : He5.DefA := ⟨fun K => Ad.at_ K (.glo "_law_turned"), "_law_turned", "_law_turned", defArgs st23, defBody st23, defScope st23, [], []⟩
def dd24 : He5.DefA := ⟨fun K => Ad.at_ K (.glo "_law_groups"), "_law_groups", "_law_groups", defArgs st24, defBody st24, defScope st24, [], []⟩
def dd25 : He5.DefA := ⟨fun K => Ad.at_ K (.glo "_law_menu"), "_law_menu", "_law_menu", defArgs st25, defBody st25, defScope st25, [], []⟩
def dd26 : He5.DefA := ⟨fun K => Ad.at_ K (.glo "_law_usual_choices"), "_law_usual_choices", "_law_usual_choices", defArgs st26, defBody st26, defScope st26, [], []⟩
def dd27 : He5.DefA := ⟨fun K => Ad.at_ K (.glo "_law_choices"), "_law_choices", "_law_choices", defArgs st27, defBody st27, defScope st27, [], []⟩
def dd28 : He5.DefA := ⟨fun K => Ad.at_ K (.glo "_law_rules"), "_law_rules", "_law_rules", defArgs st28, defBody st28, defScope st28, [], []⟩
def dd29 : He5.DefA := ⟨fun K => Ad.at_ K (.glo "law"), "law", "law", defArgs st29, defBody st29, defScope st29, [], []⟩
def dd30 : He5.DefA := ⟨fun K => Ad.at_ K (.glo "_law_told"), "_law_told", "_law_told", defArgs st30, defBody st30, defScope st30, [], []⟩
def dd31 : He5.DefA := ⟨fun K => Ad.at_ K (.glo "_law_due"), "_law_due", "_law_due", defArgs st31, defBody st31, defScope st31, [], []⟩
def dd32 : He5.DefA := ⟨fun K => Ad.at_ K (.glo "_law_unlike"), "_law_unlike", "_law_unlike", defArgs st32, defBody st32, defScope st32, [], []⟩
def fn : List He5.DefA := [dd0, dd1, dd2, dd3, dd4, dd5, dd6, dd7, dd8, dd9, dd10, dd11, dd12, dd13, dd14, dd15, dd16, dd17, dd18, dd19, dd20, dd21, dd22, dd23, dd24, dd25, dd26, dd27, dd28, dd29, dd30, dd31, dd32]
abbrev R : PySem.W.OpenRow := PySem.W.OpenLaw.row PySem.Challenge.rw_markedregions_k04_rules_told
abbrev hk : PySem.W.Hook := hookX 5 tx.fa fn
def ob (s : PySem.W.SharedT) : AlX := obsXG 5 tx.fa fn (HandSHeadRun.getT s)
theorem ob_eq (s : PySem.W.SharedT) : ob s = hk.obs s.abs := obsXG_eq (HandSHeadRun.getT_eq s)
def names : List PySem.Str := (List.map PySem.Str.ofString ["_wall", "__name__", "is_integer", "is_between", "is_row", "RegionsError", "BadPlan", "BadNumber", "BadRule", "BadRules", "Absent", "NoRule", "STEPS", "NEEDED", "is_step", "are_groups", "Plan", "MENU", "is_name", "fits", "check_plan", "Rules", "unlike", "_law_pool", "_law_take", "_law_one", "_law_turned", "_law_groups", "_law_menu", "_law_usual_choices", "_law_choices", "_law_rules", "_law_told", "_law_due", "_law_unlike"])
theorem run0 (w : World) : HandSHeadRun.RunEq R (PySem.W.view R.prog [39]) hk ob 6000 names (w.withFollow "special-get-raises" false) := by
  intro os
  kernel_rfl
theorem run1 (w : World) : HandSHeadRun.RunEq R (PySem.W.view R.prog [39]) hk ob 6000 names (w.withFollow "special-get-raises" true) := by
  intro os
  kernel_rfl
theorem run (w : World) : HandSHeadRun.RunEq R (PySem.W.view R.prog [39]) hk ob 6000 names w := PySem.W.byRow2 "special-get-raises" (P := fun w => HandSHeadRun.RunEq R (PySem.W.view R.prog [39]) hk ob 6000 names w) run0 run1 w
theorem fx_of {K : PySem.W.Frag} {w : World} (c : SaysX tx.fa fn w K) : Fx K := ⟨
    c.def_ 0 (d := dd0) rfl,
    c.def_ 1 (d := dd1) rfl,
    c.def_ 2 (d := dd2) rfl,
    c.def_ 3 (d := dd3) rfl,
    c.def_ 4 (d := dd4) rfl,
    c.def_ 5 (d := dd5) rfl,
    c.def_ 6 (d := dd6) rfl,
    c.def_ 7 (d := dd7) rfl,
    c.def_ 8 (d := dd8) rfl,
    c.def_ 9 (d := dd9) rfl,
    c.def_ 10 (d := dd10) rfl,
    c.def_ 11 (d := dd11) rfl,
    c.def_ 12 (d := dd12) rfl,
    c.def_ 13 (d := dd13) rfl,
    c.def_ 14 (d := dd14) rfl,
    c.def_ 15 (d := dd15) rfl,
    c.def_ 16 (d := dd16) rfl,
    c.def_ 17 (d := dd17) rfl,
    c.def_ 18 (d := dd18) rfl,
    c.def_ 19 (d := dd19) rfl,
    c.def_ 20 (d := dd20) rfl,
    c.def_ 21 (d := dd21) rfl,
    c.def_ 22 (d := dd22) rfl,
    c.def_ 23 (d := dd23) rfl,
    c.def_ 24 (d := dd24) rfl,
    c.def_ 25 (d := dd25) rfl,
    c.def_ 26 (d := dd26) rfl,
    c.def_ 27 (d := dd27) rfl,
    c.def_ 28 (d := dd28) rfl,
    c.def_ 29 (d := dd29) rfl,
    c.def_ 30 (d := dd30) rfl,
    c.def_ 31 (d := dd31) rfl,
    c.def_ 32 (d := dd32) rfl⟩
-- depth of calls: 0 is_integer 1, 1 is_between 2, 2 is_row 1, 3 is_step 1, 4 are_groups 2, 5 Plan.__init__ 3, 6 Plan.of 4, 7 Plan.groups 1, 8 Plan.__eq__ 1, 9 is_name 1, 10 fits 3, 11 check_plan 1, 12 Rules.__init__ 4, 13 Rules.names 1, 14 Rules.plan 1, 15 Rules.changed 5, 16 Rules.__getitem__ 2, 17 Rules.__sub__ 3, 18 Rules.__eq__ 2, 19 unlike 2, 20 _law_pool 1, 21 _law_take 1, 22 _law_one 2, 23 _law_turned 2, 24 _law_groups 3, 25 _law_menu 1, 26 _law_usual_choices 1, 27 _law_choices 3, 28 _law_rules 5, 29 law 6, 30 _law_told 3, 31 _law_due 2, 32 _law_unlike 2
theorem law_of (law : ∀ ns : List Int, ∃ o, Cl 6 29 [.val (.scr ns)] = .ok (.val (.bl true)) o) : PySem.Challenge.rw_markedregions_k04_rules_told.Holds := by
  w_on; o_law
  refine HandSHeadRun.head_any (r := PySem.W.OpenLaw.row PySem.Challenge.rw_markedregions_k04_rules_told) (q := PySem.W.view (PySem.W.OpenLaw.row PySem.Challenge.rw_markedregions_k04_rules_told).prog [39]) (H := hk) (ob := ob) (M := 6000) (loose := names) (d := HandSHeadRun.topDef (PySem.W.OpenLaw.row PySem.Challenge.rw_markedregions_k04_rules_told).prog 39) (kwd := []) ob_eq
    (by kernel_rfl) (fun s => by kernel_rfl) run (by kernel_rfl) (by kernel_rfl) (by kernel_rfl) (by rfl) (by first | assumption | decide +kernel) (by decide +kernel) ⟨rfl, rfl, rfl, rfl, rfl, by decide +kernel⟩ ?hw ?hc
  case hw => w_witness2
  case hc =>
    refine L2.walk_ofE (l := PySem.Challenge.rw_markedregions_k04_rules_told) (n := 63) (k := 2 * 6) (x := "_law_script") (CX := Ev.CXw PySem.Challenge.rw_markedregions_k04_rules_told.prog) rfl (by decide) (by kernel_rfl) ⟨rfl, by decide, by decide⟩ ?F (fun H s e s' z => Ev.cxw_end _ H s e s' z)
    intro w mg fa h Y G hmg0
    obtain ⟨K, KX, c⟩ := Y
    have hmg : mg ("law" : PySem.Str) = some (.ref fa) := by
      have e : (HandSHeadRun.topDef (PySem.W.OpenLaw.row PySem.Challenge.rw_markedregions_k04_rules_told).prog 39).name = ("law" : PySem.Str) := by kernel_rfl
      rw [← e]
      exact hmg0
    have F := fx_of c
    have M : Mg K w mg tx := mg_of (fun i f e => c.fact KX G i f e) (by decide +kernel)
    obtain ⟨fd, FL⟩ := F.f29
    have hm : mg ("law" : PySem.Str) = some (.ref (He.ga K "law")) := M.fc 57 (.glo "law") rfl
    have e := hmg.symm.trans hm
    cases e
    have b := FunD.bindsA (ps := ["_law_script"]) FL fun _ _ _ _ _ _ us hl => match us, hl with | [_], _ => rfl
    refine ⟨K, fd, spC K xr0 (Cl 6) 29 [] 1, KX, fun s v => b s [v] rfl, fun H a ns hl _ hS => ?_, fun base hb hg => ?_⟩
    · obtain ⟨o, ho⟩ := law ns
      exact Ev.end_of hS ho
    · exact Ev.fnOk_cx (Ev.fn_succ (k := 2 * 5 + 1) (i := 29) (fd0 := fd29) (tab := tab) FL sc29 rfl rfl rfl (by decide) (Ev.allLt_of (by decide)) (bd29 M (all_ok M F 5))) fun _ _ _ _ _ _ z => ⟨w, z⟩
end Zk04
theorem PySem.Challenge.cw_markedregions_k04_rules_told_holds : PySem.Challenge.rw_markedregions_k04_rules_told.Holds := by
  exact Zk04.law_of Zk04.law
