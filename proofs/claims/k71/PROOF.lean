import PyProof.Rows.All
import Wide.All
import OpenK.AllK
import Wide.FinOn
import HandS.ForMost
import HandS.HeadHook2
import HandS.Text
import KE.KDictKeyed
import KE.KeyNested
import KE.GoesComp
import KE.GoesDict
import HandS.Lambda
import HandS.IsInst
import HandS.Conv
import HandS.Defaults
import HandS.Exc
import HandS.TryOnly
import HandS.Style
import HandS.Small
import HandS.CallSlots
import HandS.Property
import HandS.HeadEnd
import HandS.ExcOwn
import HandS.WordsExc
import HandS.SetBool
import HandS.SetFor
import HandS.SetKeys
import HandS.Strs
import HandS.Set
import PyProof.Rows.SortShellAny
import HandS.More
import HandS.Star
import HandS.Base
import HandS.Call
import HandS.List
import HandS.ExcValue
import PyProof.SumWalkG
import PyProof.ListOps
import HandS.SortInts
import HandS.Iter
import HandS.ListItems
import HandS.ClsMeth
import HandS.MakeKwOnly
import HandS.SlotsOwn
import HandS.OwnEq
import HandS.HeadHook3
import KE.KDictWalk
import KE.KDictCopyH
import HandS.ExcInit
import KE.KExcSuper
import HandS.ExcSuper
import HandS.HeadNt
import HandS.ExcField
import KE.KParD
import HandS.TupAny
import HandS.TupMul
import HandS.Zip
import KE.GoesMore
import HandS.Deep
import HandS.RaiseMore
import PyProof.ReprRoads
import HandS.SortRule
import PyProof.Rows.SortKeyStr
import PyProof.StrOps
import HandS.FStr
import KE.DataFind
import HandS.ReCall
import HandS.Dict
import HandS.Head0
import HandS.Head1
import HandS.Head2
import HandS.HeadHook1
import HandS.TryMany
import HandS.ListEq
import PyProof.NeKinds
import PyProof.StrOps2
import KE.KDictDisplayH
import HandS.Nested
import KE.KDflt
import KE.KStateDown
import PySem.Challenge.RW_markedregions_k71_whole_best_sizes_by_tr
set_option Elab.async false
set_option linter.all false
set_option maxRecDepth 100000
set_option maxHeartbeats 0
namespace Ev
open PySem L2

inductive Nd where
  | dct (ks : List Key) | dcl (ks : List Key) | ins (c : Str) (fs : List Str)
inductive T where
  | non | bl (b : Bool) | int (i : Int) | str (x : Str) | ty (n : String) | gl (g : Nat)
  | tup (xs : List T) | lst (xs : List T) | nd (n : Nd) (xs : List T) | set (xs : List T) | scr (is : List Int) | sol (xs : List T) | dn (ks : List T)
inductive W where
  | val (t : T) | lst (ws : List W) | nd (n : Nd) (ws : List W) | set (ts : List T)
abbrev Env := List (Option W)
inductive R (α : Type) where
  | ok (a : α) (env : Env) | exc (c : Nat) (t : T) (env : Env) | no
def R.bind {α β : Type} (r : R α) (k : α → Env → R β) : R β := match r with
  | .ok a env => k a env
  | .exc c t env => .exc c t env
  | .no => .no
def R.of {α : Type} (o : Option α) (env : Env) : R α := match o with
  | some a => .ok a env
  | none => .no
inductive CR where
  | ok (w : W) (outs : List (Option W)) | exc (c : Nat) (t : T) (outs : List (Option W)) | no
abbrev Calls := Nat → List W → CR

def Nd.keys : Nd → Option (List Key)
  | .dct ks => some ks
  | .dcl ks => some ks
  | .ins _ _ => none
inductive Bi where
  | len | list | tuple | sorted | min | max | int | sum | all | any | dict | repr
  deriving DecidableEq
inductive Ty where
  | int | bool | str | non | list | tuple | dict
  deriving DecidableEq
def Ty.row : Ty → Bool
  | .str => true
  | .non => true
  | .list => true
  | .tuple => true
  | _ => false
inductive Ar where
  | p (i : Nat) | k (i : Nat) | d (j : Nat) (t : T)
inductive LH where
  | one (rp : Bool) | row (pre : List T) (rp : Bool) (post : List Bool)
mutual
inductive E where
  | int (i : Int) | bl (b : Bool) | non | str (x : Str)
  | cst (g : Nat)
  | rd (i : Nat)
  | rdx (i : Nat) (e : E)
  | op (o : Operator) (a b : E) | neg (a : E)
  | cmp (o : CmpOp) (a b : E) | chn (o o' : CmpOp) (a b c : E)
  | one (a : E) | and (a b : E) | or (a b : E) | not (a : E) | ife (c : Tt) (a b : E)
  | tup (es : Es) | lst (es : Es)
  | ix (a i : E) | sl (a : E) (lo hi : Eo)
  | bi (b : Bi) (es : Es)
  | isi (a : E) (c : Ty) | isis (a : E) (cs : List Ty)
  | call (f : Nat) (as : As) (ds : List T)
  | callk (f : Nat) (as : As) (ks : As)
  | lc (own : List Nat) (tg : Tg) (it : It) (cs : Tts) (e : E)
  | lenS (s : Se) | srtS (s : Se)
  | lrng (a : E) (b : Eo) | lrng3 (a b c : E)
  | rev (a : E)
  | alt (a b : E)
  | fld (c f : Str) (a : E)
  | fldv (c f : Str) (i : Nat)
  | meth (c m : Str) (f : Nat) (a : E) (as : As) (ds : List T)
  | methv (c m : Str) (f : Nat) (i : Nat) (as : As) (ds : List T)
  | prop (c : Str) (f : Nat) (a : E)
  | new (c : Str) (f : Nat) (es ks : Es) (ar : List Ar)
  | newst (c : Str) (f : Nat) (e : E)
  | newdd (c : Str) (f : Nat) (es : Es) (e : E) (ks : List Str) (ar : List Ar)
  | deq (a b : E)
  | callw (f : Nat) (es ks : Es) (ar : List Ar)
  | own (c : Str) (f : Nat) (a b : E)
  | ownE (c : Str) (cs : List Str) (f : Nat) (a b : E)
  | ownB (c : Str) (f : Nat) (a b : E)
  | ownN (c : Str) (f : Nat) (a b : E)
  | ownI (c : Str) (f : Nat) (a b : E)
  | isc (c : Str) (cs : List Str) (a : E)
  | isin (cs : List Str) (y : Ty) (a : E) | isid (a : E) (cs : List Ty)
  | dct (ks : List Key) (es : Es)
  | items (a : E)
  | kin (g : Nat) (a : E) | knin (g : Nat) (a : E) | kget (g : Nat) (a : E) | klist (g : Nat)
  | lc2 (own own2 : List Nat) (tg : Tg) (it : It) (tg2 : Tg) (it2 : It) (e : E)
  | srtX (own : List Nat) (tg : Tg) (it : It) (cs : Tts) (e : E)
  | tups (es : Es) | tadds (a b : E) | tadd (a b : E) | tmul (a b : E) | tsl (a : E) (lo hi : Eo) | ssl (a : E) (lo hi : Eo)
  | frz (a : E) | tix (a x : E) | tcnt (a x : E) | anyt (a : E)
  | propv (c : Str) (f : Nat) (i : Nat)
  | methkw (c m : Str) (f : Nat) (a : E) (ks : List Str) (es : Es)
  | srtR (a : E)
  | popv (i : Nat) (e : E)
  | lenv (i : Nat) | cmpv (o : CmpOp) (i : Nat) (b : E)
  | srtD (a : E) | listv (i : Nat) | lend (a : E)
  | str1 (a : E) | lenX (a : E) | srtU (a : E) | intS (a : E) | strI (a : E) | six (a i : E) | sadd (a b : E) | fst_ (p : Str) (a : E) (q : Str) | join (z : Str) (a : E)
  | ownA (c : Str) (f : Nat) (a b : E) | ownR (c : Str) (f : Nat) (a : E) | ownL (c : Str) (f : Nat) (a : E)
  | newN (c : Str) (f : Nat) (es : Es)
  | dget (a k d : E) | lix (a b : E) | tst (es : Es) (a : E) | utup (a : E) | stup (a : E) | neE (a b : E) | lcx (own : List Nat) (tg : Tg) (it : It) (e : E)
  | dcn (a : E) | ind (a b : E) | nind (a b : E) | lamA (m : Bool) (hs : List (List Nat × LH)) (ds : List T) (is : List Nat) (e : E)
  | smul (a b : E) | ixp (a b : E) | spl (b : Str) (a : E) | part (b : Str) (a : E) | fstr (es : Es) | sin (a b : E) | methr (c m : Str) (f : Nat) (a : E) (as : As) (ds : List T) | methf (c m : Str) (f : Nat) (c2 fl : Str) (i : Nat) (as : As) (ds : List T)
inductive Se where
  | sc (own : List Nat) (tg : Tg) (it : It) (cs : Tts) (e : E)
  | of (e : E)
inductive Es where
  | nil | cons (e : E) (es : Es)
inductive Eo where
  | no | so (e : E)
inductive Tt where
  | v (e : E) | one (a : Tt) | and (a b : Tt) | or (a b : Tt) | not (a : Tt)
inductive Tts where
  | nil | cons (c : Tt) (cs : Tts)
inductive Tg where
  | var (i : Nat) | tup (is : List Nat) | lst (is : List Nat)
inductive It where
  | e (e : E) | rng (a : E) (b : Eo) | keys (e : E) | keysv (i : Nat) | kk (g : Nat) | enum (e : E) | zip (a b : E) | chars (e : E) | dnk (e : E)
inductive As where
  | nil | cons (e : E) (as : As) | io (i : Nat) (as : As) | own (e : E) (as : As) | iol (i : Nat) (as : As)
end
inductive Po where
  | e (a : E) | is (b : Bool)
inductive Hs where
  | retE (a : E) | one (rp : Bool) | ret (pre : List T) (rp : Bool) (post : List Po) | asg (j : Nat) (pre : List T) (rp : Bool) (post : List Po) | eqr (rp : Bool) (a : E) | ifne (rp : Bool) (a : E) | rto (c : Str) (f : Nat) (pre : List T)
inductive Plc where
  | nil | v (i : Nat) (r : Plc) | it (i : Nat) (ks : List E) (r : Plc)
mutual
inductive S where
  | asgP (ps : Plc) (e : E) | forv (tg : Tg) (i : Nat) (b : Ss) | try0 (b : Ss) (cs : List Nat) (a : E) | trym (i : Nat) (b : Ss) (hs : List (List Nat × Hs))
  | asg (i : Nat) (e : E) | asgT (is : List Nat) (e : E) | par (is : List Nat) (es : Es)
  | setx (i : Nat) (k e : E)
  | app (i : Nat) (e : E)
  | expr (e : E)
  | ret (e : E) | retv (i : Nat) | retn
  | ife (c : Tt) (a b : Ss)
  | for_ (tg : Tg) (it : It) (b : Ss)
  | whl (n : Nat) (c : Tt) (b : Ss)
  | setf (c f : Str) (i : Nat) (e : E)
  | appx (i : Nat) (k e : E)
  | clrt (e : E)
  | ext (i : Nat) (e : E) | appt (e x : E) | clrx (i : Nat) (k : E)
  | updd (i : Nat) (e : E) | setp (i : Nat) (ks : List E) (e : E)
  | tryf (i : Nat) (b : Ss) (cs : List Nat) (c : Nat) (j : Nat)
  | tryn (b : Ss) | rais (c : Nat) (e : E) | tryx (i : Nat) (b : Ss) (cs : List Nat) (h : Hs)
  | pass | never
inductive Ss where
  | nil | cons (s : S) (ss : Ss)
end
structure FD where
  np : Nat
  ns : Nat
  io : List Nat
  body : Ss
end Ev
namespace Ev
open PySem L2
def Nd.free : Nd → Bool
  | .dcl _ => false
  | _ => true
end Ev
namespace Ev
open PySem L2
def tabP (vs : Array Value) : Option Addr := match vs[11]? with
  | some (Value.ref pt) => some pt
  | _ => none
def lamC (K : PySem.W.Frag) (x : Str) : Option Addr := match K.lookup (He.ga K x) with
  | some ⟨_, _, .func fd, _⟩ => (match fd.code with
    | Value.ref c => some c
    | _ => none)
  | _ => none
def lamP (K : PySem.W.Frag) (x : Str) : Option Addr := (lamC K x).bind fun c => (match K.lookup c with
  | some ⟨_, _, .fields vs, _⟩ => tabP vs
  | _ => none)
end Ev
namespace Ev
open PySem L2
abbrev XR := Nat → T → Hp → (Addr → Prop) → Value → Option Addr → Prop
structure Cfg where
  G : Nat → Option T
  C : Calls
  xr : XR
  W : WX
  xm : ∀ c t H (av av' : Addr → Prop) cls d, (∀ b, av' b → av b) → xr c t H av cls d → xr c t H av' cls d
end Ev
namespace Ev
open PySem L2
def Ty.nm : Ty → String
  | .int => "int"
  | .bool => "bool"
  | .str => "str"
  | .non => "NoneType"
  | .list => "list"
  | .tuple => "tuple"
  | .dict => "dict"
end Ev
namespace Ev
open PySem L2
def inrs (ks : List Str) : List Key := ks.map .inr
end Ev
namespace Ev
open PySem L2
mutual
def tB (K : PySem.W.Frag) : T → Value → Bool
  | .tup ts, u => (match u with
    | .ref a => (match K.lookup a with
      | some ⟨.type c, _, .seq its _, _⟩ => decide (c = "tuple") && (decide (its.size ≤ sizeLine) && tBs K ts its.toList)
      | _ => false)
    | _ => false)
  | .non, u => He.relB .non u
  | .bl b, u => He.relB (.bl b) u
  | .int i, u => He.relB (.int i) u
  | .str x, u => He.relB (.str x) u
  | _, _ => false
def tBs (K : PySem.W.Frag) : List T → List Value → Bool
  | [], [] => true
  | t :: ts, u :: us => tB K t u && tBs K ts us
  | _, _ => false
end
section
variable {K : PySem.W.Frag}
def entB (K : PySem.W.Frag) : List DictEntry → List Str → List T → Bool
  | [], [], [] => true
  | e :: r, k :: ks, t :: ts => (match e.key with | .str x _ => decide (x = k) | _ => false) && (tB K t e.val && entB K r ks ts)
  | _, _, _ => false
def menuB (K : PySem.W.Frag) (a : Addr) (ks : List Str) (ts : List T) : Bool := match K.lookup a with
  | some ⟨_, _, .dict es _, _⟩ => entB K es.toList ks ts
  | _ => false
end
def oexB (K : PySem.W.Frag) (C : Addr) : Bool := (match K.lookup C with
  | some ⟨.type t, _, .cls cd, sl⟩ => (match cd.mro, sl.toList with
    | .ref C' :: bm, [_, _, _, _, some (.builtin n), _] => decide (t = "type") && (decide (C' = C) && (decide (n = "ValueError.__new__") && (cd.hasDict && (!cd.hasDel && PySem.HandSPX.refsVE bm))))
    | _, _ => false)
  | _ => false) && (He.eqO (PySem.W.findIn K (.ref C) "__setattr__") (some (some (.builtin "object.__setattr__"))) && (decide (PySem.W.subIn K (.ref C) (.type "BaseException") = some true) && (decide (PySem.W.typeIn K (.ref C) = some (.type "type")) && PySem.W.keepIn K (.ref C))))
def xcB (K : PySem.W.Frag) (x D : Str) : Bool := oexB K (He.ga K x) && (decide (PySem.W.mroIn K (He.ga K x) (.ref (He.ga K D)) = some true) && (He.eqO (PySem.W.ks_superIn K (He.ga K x) (He.ga K D) "__init__") (some (some (.builtin "ValueError.__init__"))) &&
  (decide (PySem.W.subIn K (.ref (He.ga K x)) (.type "ValueError") = some true) && (He.eqO (PySem.W.findIn K (.ref (He.ga K x)) "value") (some none) && (He.eqO (PySem.W.findIn K (.ref (He.ga K x)) "__init__") (some (some (.ref (He.ma K (He.ga K D) "__init__")))) &&
  decide (PySem.W.typeIn K (.ref (He.ma K (He.ga K D) "__init__")) = some (.type "function")))))))
def strAt (vs : Array Value) (i : Nat) (z : Str) : Bool := match vs[i]? with
  | some (.str y _) => decide (y = z)
  | _ => false
structure XD where
  D : Str
  qual : Str
  params : Arguments
  body : List Stmt
  scope : Scope
  file : Str
abbrev XnW : Type := Option (Str × Str × Arguments × FuncBody × Scope × Addr × List Str × Addr)
def xnW (K : PySem.W.Frag) (D : Str) : XnW := match K.lookup (He.ma K (He.ga K D) "__init__") with
  | some ⟨_, _, .func fd, _⟩ => some (fd.name, fd.qualname, fd.params, fd.body, fd.scope, fd.globals, fd.closure.map (·.1), fd.builtins)
  | _ => none
def XD.val (d : XD) : XnW := some ("__init__", d.qual, d.params, .stmts d.body, d.scope, mainGlobals, ["__class__"], builtinsNs)
def XD.ok (K : PySem.W.Frag) (d : XD) : Bool := (match K.lookup (He.ma K (He.ga K d.D) "__init__") with
  | some ⟨_, _, .func fd, _⟩ => PySem.W.codeIn K fd.code d.qual && ((match fd.closure with
      | [(_, cc)] => (match K.lookup cc with
        | some ⟨_, _, .cell (some (.ref C)), _⟩ => decide (C = He.ga K d.D)
        | _ => false)
      | _ => false) && ((match fd.code with
        | .ref cda => (match K.lookup cda with
          | some ⟨_, _, .fields vs, _⟩ => strAt vs 2 d.file
          | _ => false)
        | _ => false) && ((match fd.defaults with
          | .none => true
          | _ => false) && (match fd.kwdefaults with
            | .none => true
            | _ => false))))
  | _ => false) && ((PySem.W.clsIn K (He.ga K d.D)).isSome && He.eqO (PySem.W.nsIn K cStatics "thirdparty.any") (some none))
def exmB (K : PySem.W.Frag) (h : Str) (xs : List Str) (cs : List Nat) : Bool := xs.zipIdx.all fun p => decide (PySem.W.exmOne K (.ref (He.ga K p.1)) (.ref (He.ga K h)) = some (cs.contains p.2)) && (xfB K (He.ga K p.1) && He.eqO (PySem.W.findIn K (.ref (He.ga K p.1)) "value") (some none))
abbrev reTail : List Value := [.type "RuntimeError", .type "Exception", .type "BaseException", .type "object"]
def bxB (K : PySem.W.Frag) (C : Addr) : Bool := PySem.W.excIn K C reTail "RuntimeError.__new__" && (decide (PySem.W.subIn K (.ref C) (.type "BaseException") = some true) && (decide (PySem.W.typeIn K (.ref C) = some (.type "type")) && PySem.W.keepIn K (.ref C)))
inductive Fb where
  | glo (x : Str) | free (x : Str) | con (x : Str) (t : T)
  | cls (c : Str) | noat (c f : Str) | meth (c m : Str) | mkr (c : Str) | stat (c m : Str) | prop (c m : Str)
  | isc (c : Str) (cs : List Str)
  | op (c m : Str) | slf (c : Str) | ne (c : Str)
  | menu (x : Str) (ks : List Str) (ts : List T)
  | exc (x D : Str) | exm (h : Str) (xs : List Str) (cs : List Nat)
  | isx (z : Str) (xs : List Str) | isb (z : String) (xs : List Str) | exb (x : Str) | isn (c : Str)
def iscB (K : PySem.W.Frag) (c : Str) : Bool := (He.Fa.cls c).ok K && (He.eqO (PySem.W.findIn K (.ref (He.ga K c)) "__class__") (some (some (.builtin "object.__class__"))) && (He.eqO (PySem.W.specialIn K (.builtin "object.__class__") "__get__") (some (some (.builtin "getset_descriptor.__get__"))) &&
  (decide (PySem.W.takesIn K (.builtin "object.__class__") = some true) && decide (PySem.W.mroIn K (He.ga K c) (.type "object") = some true))))
def tys : List Ty := [.int, .bool, .str, .non, .list, .tuple, .dict]
def Fb.ok (K : PySem.W.Frag) : Fb → Bool
  | .glo x => (He.Fa.glo x).ok K
  | .free x => (He.Fa.free x).ok K
  | .con x t => (match PySem.W.nsIn K mainGlobals x with
    | some (some u) => tB K t u
    | _ => false)
  | .cls c => (He.Fa.cls c).ok K
  | .noat c f => (He.Fa.noat c f).ok K
  | .meth c m => (He.Fa.meth c m).ok K
  | .mkr c => (He.Fa.mkr c).ok K
  | .stat c m => PySem.W.readsIn K (He.ga K c) (.type "type") && (He.eqO (PySem.W.specialIn K (.ref (He.ga K c)) "__getattribute__") (some (some (.builtin "type.__getattribute__"))) && He5.wrapB K (He.ga K c) "staticmethod" "staticmethod.__get__" m)
  | .prop c m => He.eqO (PySem.W.findIn K (.ref (He.ga K c)) m) (some (some (.ref (He.ma K (He.ga K c) m)))) && (He.eqO (PySem.W.specialIn K (.ref (He.ma K (He.ga K c) m)) "__get__") (some (some (.builtin "property.__get__"))) &&
    (decide (PySem.W.takesIn K (.ref (He.ma K (He.ga K c) m)) = some true) && (match PySem.W.recIn K (He.ma K (He.ga K c) m) "property" with
      | some (.ref _ :: _) => true
      | _ => false)))
  | .isc c cs => tys.all (fun y => decide (PySem.W.kitOne K (.type y.nm) (.ref (He.ga K c)) = some false)) && cs.all fun c' => iscB K c' && decide (PySem.W.kitOne K (.ref (He.ga K c')) (.ref (He.ga K c)) = some (decide (c' = c)))
  | .op c m => He.eqO (PySem.W.findIn K (.ref (He.ga K c)) m) (some (some (.ref (He.ma K (He.ga K c) m)))) && (PySem.W.fnIn K (He.ma K (He.ga K c) m) && PySem.W.isFn K (.ref (He.ma K (He.ga K c) m)))
  | .slf c => PySem.W.selfFirst K (He.ga K c)
  | .ne c => He.eqO (PySem.W.findIn K (.ref (He.ga K c)) "__ne__") (some (some (.builtin "object.__ne__"))) && decide (PySem.W.subIn K (.ref (He.ga K c)) (.type "object") = some true)
  | .menu x ks ts => (He.Fa.glo x).ok K && menuB K (He.ga K x) ks ts
  | .exc x D => (He.Fa.glo x).ok K && xcB K x D
  | .exm h xs cs => (He.Fa.glo h).ok K && exmB K h xs cs
  | .isx z xs => (He.Fa.glo z).ok K && xs.all fun y => decide (PySem.W.kitOne K (.ref (He.ga K y)) (.ref (He.ga K z)) = some true)
  | .isb z xs => xs.all fun y => decide (PySem.W.kitOne K (.ref (He.ga K y)) (.type z) = some true)
  | .exb x => (He.Fa.glo x).ok K && bxB K (He.ga K x)
  | .isn c => iscB K c && tys.all fun y => decide (y = .non) || decide (PySem.W.kitOne K (.ref (He.ga K c)) (.type y.nm) = some false)
def Fb.tab : Fb → Option (Str × List Str)
  | .menu x ks _ => some (x, ks)
  | _ => none
abbrev AlX : Type := Bool × List He.FnW × List (Option (List (Option (Str × Int)))) × List XnW
def tabsOf (fa : List Fb) : List (Str × List Str) := fa.filterMap Fb.tab
def obsX (fa : List Fb) (fn : List He5.DefA) (xd : List XD) (K : PySem.W.Frag) : AlX := ((fa.all fun f => f.ok K) && ((fn.all fun d => d.ok K) && xd.all fun d => d.ok K), fn.map (fun d => He5.fnA K (d.at_ K)), (tabsOf fa).map (fun t => He.dicW K (He.ga K t.1)), xd.map fun d => xnW K d.D)
def valX (fa : List Fb) (fn : List He5.DefA) (xd : List XD) (w : World) : AlX := (true, fn.map He5.DefA.val, (tabsOf fa).map (fun t => some (He.keysIn w.params t.2)), xd.map XD.val)
end Ev
namespace Ev
open PySem L2
inductive Ad where
  | glo (x : Str) | met (c m : Str) | stat (c m : Str) | prop (c m : Str)
def Ad.at_ (K : PySem.W.Frag) : Ad → Addr
  | .glo x => He.ga K x
  | .met c m => He.ma K (He.ga K c) m
  | .stat c m => He5.wf K (He.ga K c) "staticmethod" m
  | .prop c m => He5.wf K (He.ga K c) "property" m
structure MkI where
  c : Str
  f : Nat
  np : Nat
  ks : List Str
  ar : List Ar
  ds : List T
structure CwI where
  x : Str
  f : Nat
  np : Nat
  ks : List Str
  ar : List Ar
  ds : List T
structure Tx where
  fs : List (Option (Ad × List Nat × Nat))
  bl : List Str
  cs : List (Str × T)
  fa : List Fb
  mks : List MkI
  ms : List (Str × Nat)
  xs : List Str := []
  kw : List (Nat × Ad × List Str) := []
  cw : List CwI := []
section
variable {X : Cx} {g : Cfg} {d : Nat} {tx : Tx} {pos p0 p1 p2 p3 apos cpos : Pos} {a b c o : Expr} {es rest : List Expr} {ia ib ic : E} {ja jb : Tt} {is js : Es} {as : As} {x y z nm m : Str} {k : Nat}
def As.len : As → Nat
  | .nil => 0
  | .cons _ as => as.len + 1
  | .io _ as => as.len + 1
  | .own _ as => as.len + 1
  | .iol _ as => as.len + 1
variable {tg : Expr}
variable {zz : Se}
variable {ks : List Nat} {s : S} {ss s1 s2 : Ss} {st : Stmt}
end
end Ev
namespace Ev
open PySem L2
def newB : List Addr → Nat → List Addr × Nat
  | [], m => ([], m)
  | a :: r, m => match Nat.beq (Nat.land (Nat.shiftRight m a) 1) 1 with
    | true => newB r m
    | false => match newB r (Nat.lor m (Nat.shiftLeft 1 a)) with
      | (l, m') => (a :: l, m')
def bfsB (g : Addr → Option Obj) : Nat → List Addr → Nat → List Addr
  | 0, fr, _ => fr
  | n + 1, fr, m => match newB (fr.flatMap fun a => match g a with
      | some o => He.refsD o
      | none => []) m with
    | (l, m') => fr ++ bfsB g n l m'
def isTab0 : Option Obj → Bool
  | some ⟨.none, none, .fields vs, sl⟩ => Nat.beq vs.size 0 && Nat.beq sl.size 0
  | _ => false
def asB (g : Addr → Option Obj) (n : Nat) : List Addr := (bfsB g n [mainGlobals] (Nat.shiftLeft 1 mainGlobals)).filter (fun a => !isTab0 (g a)) ++ [PySem.cStatics]
def obsYG (n : Nat) (fa : List Fb) (fn : List He5.DefA) (xd : List XD) (g : Addr → Option Obj) : AlX := obsX fa fn xd (He.frG g (asB g n))
end Ev
namespace Ev
open PySem PySem.W PySem.Calls PyProof.Rows HandSHeadRun
def RunA (r : OpenRow) (q : Program) (M : Nat) (loose : List PySem.Str) (w : World) : Prop :=
  ∀ os : OsState, (endF (stepQ (denQ tabQ) r.prog w) M r.prog w os).map (fun s => (looksF r.prog (boot_heap w.params) s.abs, seenQ q loose (importedModules r.prog.main.body) (fun s => xlAt q [] s && recOk r.toRowW.records s) s.abs)) = some (true, openGood q loose)
def RunBa (r : OpenRow) (fa : List Fb) (M : Nat) (w : World) : Prop :=
  ∀ os : OsState, (endF (stepQ (denQ tabQ) r.prog w) M r.prog w os).map (fun s => fa.all fun f => f.ok (He.frG (getT s) (asB (getT s) 5))) = some true
def RunBf (r : OpenRow) (fn : List He5.DefA) (M : Nat) (w : World) : Prop :=
  ∀ os : OsState, (endF (stepQ (denQ tabQ) r.prog w) M r.prog w os).map (fun s => fn.all fun f => f.ok (He.frG (getT s) (asB (getT s) 5))) = some true
def RunBx (r : OpenRow) (fa : List Fb) (fn : List He5.DefA) (xd : List XD) (M : Nat) (w : World) : Prop :=
  ∀ os : OsState, (endF (stepQ (denQ tabQ) r.prog w) M r.prog w os).map (fun s => (xd.all fun f => f.ok (He.frG (getT s) (asB (getT s) 5)), (obsYG 5 fa fn xd (getT s)).2)) = some (true, (valX fa fn xd w).2)
end Ev
namespace Ev
open PySem L2
section
variable {X : Cx} {g : Cfg} {d : Nat} {tx : Tx} {ks : List Nat} {pos p0 p1 p2 : Pos} {c kx a : Expr} {ik ia : E} {x : Str} {i : Nat} {kes : List E}
def Plc.len : Plc → Nat
  | .nil => 0
  | .v _ r => r.len + 1
  | .it _ _ r => r.len + 1
end
end Ev
namespace Ev
open PySem L2
def Cfg.at_ (g : Cfg) (σ : L2.St) : Cfg := { g with W := fun c d _ H => g.W c d σ H }
end Ev
namespace Ev
open PySem L2
def lamB (g : Addr → Option Obj) (K : PySem.W.Frag) (x : Str) : Bool := match lamC K x with
  | some c => (match K.lookup c with
    | some ⟨.type ty, _, .fields vs, _⟩ => decide (ty = "code") && (match vs[11]?, vs.getD 11 .none, vs.getD 18 .none, vs.getD 7 .none, vs.getD 9 .none, vs.getD 10 .none with
      | some (Value.ref pt), Value.ref pt', Value.str _ _, Value.int _ _, Value.bool _, Value.int _ _ => Nat.beq pt pt' && (!Nat.beq c pt && (isTab0 (g pt) && (K.lookup pt).isNone))
      | _, _, _, _, _, _ => false)
    | _ => false)
  | none => false
def lamsB (g : Addr → Option Obj) (K : PySem.W.Frag) (ls : List Str) : Bool := ls.all (lamB g K) && decide (ls.map (lamP K)).Nodup
end Ev
namespace Ev
open PySem L2 HandSHeadRun PySem.W
def RunZ (r : OpenRow) (ls : List Str) (M : Nat) (w : World) : Prop :=
  ∀ os : OsState, (endF (stepQ (denQ tabQ) r.prog w) M r.prog w os).map (fun s => lamsB (getT s) (He.frG (getT s) (asB (getT s) 5)) ls) = some true
end Ev
namespace Sh
open PySem L2 Ev
def ir0 : Ss := (.cons (.ret (.and (.isi (.rd 0) .int) (.one (.not (.isi (.rd 0) .bool))))) .nil)
def fd0 : FD := ⟨1, 1, [], ir0⟩
def ir1 : Ss := (.cons (.ret (.and (.call 0 (.cons (.rd 0) .nil) []) (.one (.chn .LtE .LtE (.rd 1) (.rd 0) (.rd 2))))) .nil)
def fd1 : FD := ⟨3, 3, [], ir1⟩
def ir2 : Ss := (.cons (.ret (.isid (.rd 0) [.list, .tuple])) .nil)
def fd2 : FD := ⟨1, 1, [], ir2⟩
def ir3 : Ss := (.cons (.ret (.and (.isi (.rd 0) .str) (.one (.cmp .In (.rd 0) (.cst 0))))) .nil)
def fd3 : FD := ⟨1, 1, [], ir3⟩
def ir4 : Ss := (.cons (.ife (.or (.not (.v (.call 2 (.cons (.rd 0) .nil) []))) (.one (.not (.v (.bi .all (.cons (.lc [2] (.var 2) (.e (.rd 0)) .nil (.and (.call 2 (.cons (.rd 2) .nil) []) (.one (.cmp .Gt (.bi .len (.cons (.rd 2) .nil)) (.int 0))))) .nil)))))) (.cons (.ret (.bl false)) .nil) .nil) (.cons (.asg 1 (.lc2 [2, 3] [3] (.var 2) (.e (.rd 0)) (.var 3) (.e (.rd 2)) (.rd 3))) (.cons (.ife (.or (.not (.v (.bi .all (.cons (.lc [3] (.var 3) (.e (.rd 1)) .nil (.call 3 (.cons (.rd 3) .nil) [])) .nil)))) (.one (.not (.v (.bi .all (.cons (.lc [3] (.var 3) (.e (.cst 1)) .nil (.cmp .In (.rd 3) (.rd 1))) .nil)))))) (.cons (.ret (.bl false)) .nil) .nil) (.cons (.ret (.cmp .Eq (.bi .len (.cons (.srtX [3] (.var 3) (.e (.rd 1)) .nil (.rd 3)) .nil)) (.bi .len (.cons (.rd 1) .nil)))) .nil))))
def fd4 : FD := ⟨1, 4, [], ir4⟩
def ir5 : Ss := (.cons (.ife (.not (.v (.call 4 (.cons (.rd 1) .nil) []))) (.cons (.rais 0 (.rd 1)) .nil) .nil) (.cons (.setf "Plan" "own_groups" 0 (.bi .tuple (.cons (.lc [2] (.var 2) (.e (.rd 1)) .nil (.bi .tuple (.cons (.bi .sorted (.cons (.rd 2) .nil)) .nil))) .nil))) .nil))
def fd5 : FD := ⟨2, 3, [0], ir5⟩
def ir6 : Ss := (.cons (.ife (.or (.not (.v (.call 2 (.cons (.rd 0) .nil) []))) (.one (.not (.v (.call 4 (.cons (.rd 0) .nil) []))))) (.cons (.rais 0 (.rd 0)) .nil) .nil) (.cons (.ret (.newst "Plan" 5 (.rd 0))) .nil))
def fd6 : FD := ⟨1, 1, [], ir6⟩
def ir7 : Ss := (.cons (.ret (.fld "Plan" "own_groups" (.rd 0))) .nil)
def fd7 : FD := ⟨1, 1, [], ir7⟩
def ir8 : Ss := (.cons (.ret (.and (.isc "Plan" ["Plan", "Rules"] (.rd 1)) (.one (.cmp .Eq (.fld "Plan" "own_groups" (.rd 0)) (.fld "Plan" "own_groups" (.rd 1)))))) .nil)
def fd8 : FD := ⟨2, 2, [], ir8⟩
def ir9 : Ss := (.cons (.ret (.and (.isi (.rd 0) .str) (.one (.or (.cmp .Eq (.rd 0) (.str "plan")) (.one (.kin 2 (.rd 0))))))) .nil)
def fd9 : FD := ⟨1, 1, [], ir9⟩
def ir10 : Ss := (.cons (.ife (.v (.cmp .Eq (.rd 0) (.str "held"))) (.cons (.ret (.isi (.rd 1) .bool)) .nil) .nil) (.cons (.ife (.v (.cmp .Eq (.rd 0) (.str "choice"))) (.cons (.ret (.call 1 (.cons (.rd 1) (.cons (.int 0) (.cons (.int 1) .nil))) [])) .nil) .nil) (.cons (.ret (.and (.isi (.rd 1) .str) (.one (.cmp .In (.rd 1) (.kget 2 (.rd 0)))))) .nil)))
def fd10 : FD := ⟨2, 2, [], ir10⟩
def ir11 : Ss := (.cons (.ife (.not (.v (.isc "Plan" ["Plan", "Rules"] (.rd 0)))) (.cons (.rais 0 (.rd 0)) .nil) .nil) .nil)
def fd11 : FD := ⟨1, 1, [], ir11⟩
def ir12 : Ss := (.cons (.expr (.call 11 (.cons (.rd 1) .nil) [])) (.cons (.asg 11 (.dct [.inr "clear", .inr "flag", .inr "unflag", .inr "start", .inr "choice", .inr "copied"] (.cons (.rd 2) (.cons (.rd 3) (.cons (.rd 4) (.cons (.rd 5) (.cons (.rd 6) (.cons (.rd 7) .nil)))))))) (.cons (.setx 11 (.str "lock") (.rd 8)) (.cons (.setx 11 (.str "held") (.rd 9)) (.cons (.setx 11 (.str "read") (.rd 10)) (.cons (.for_ (.var 12) (.kk 2) (.cons (.ife (.not (.v (.call 10 (.cons (.rd 12) (.cons (.rdx 11 (.rd 12)) .nil)) []))) (.cons (.rais 2 (.rdx 11 (.rd 12))) .nil) .nil) .nil)) (.cons (.setf "Rules" "own_plan" 0 (.rd 1)) (.cons (.setf "Rules" "told_of" 0 (.rd 11)) .nil))))))))
def fd12 : FD := ⟨11, 13, [0], ir12⟩
def ir13 : Ss := (.cons (.ret (.klist 2)) .nil)
def fd13 : FD := ⟨0, 0, [], ir13⟩
def ir14 : Ss := (.cons (.ret (.fld "Rules" "own_plan" (.rd 0))) .nil)
def fd14 : FD := ⟨1, 1, [], ir14⟩
def ir15 : Ss := (.cons (.ife (.not (.v (.call 9 (.cons (.rd 1) .nil) []))) (.cons .never .nil) .nil) (.cons (.asg 3 (.bi .dict (.cons (.fld "Rules" "told_of" (.rd 0)) .nil))) (.cons (.ife (.v (.cmp .Eq (.rd 1) (.str "plan"))) (.cons (.expr (.call 11 (.cons (.rd 2) .nil) [])) (.cons (.ret (.newdd "Rules" 12 (.cons (.rd 2) .nil) (.rd 3) ["clear", "flag", "unflag", "start", "choice", "copied", "lock", "held", "read"] [.p 0, .k 0, .k 1, .k 2, .k 3, .k 4, .k 5, .k 6, .k 7, .k 8])) .nil)) .nil) (.cons (.setx 3 (.rd 1) (.rd 2)) (.cons (.ret (.newdd "Rules" 12 (.cons (.fld "Rules" "own_plan" (.rd 0)) .nil) (.rd 3) ["clear", "flag", "unflag", "start", "choice", "copied", "lock", "held", "read"] [.p 0, .k 0, .k 1, .k 2, .k 3, .k 4, .k 5, .k 6, .k 7, .k 8])) .nil)))))
def fd15 : FD := ⟨3, 4, [], ir15⟩
def ir16 : Ss := (.cons (.ife (.not (.v (.call 9 (.cons (.rd 1) .nil) []))) (.cons .never .nil) .nil) (.cons (.ret (.ife (.v (.cmp .Eq (.rd 1) (.str "plan"))) (.fld "Rules" "own_plan" (.rd 0)) (.ix (.fld "Rules" "told_of" (.rd 0)) (.rd 1)))) .nil))
def fd16 : FD := ⟨2, 2, [], ir16⟩
def ir17 : Ss := (.cons (.ret (.call 19 (.cons (.rd 0) (.cons (.rd 1) .nil)) [])) .nil)
def fd17 : FD := ⟨2, 2, [], ir17⟩
def ir18 : Ss := (.cons (.ret (.and (.isc "Rules" ["Plan", "Rules"] (.rd 1)) (.and (.ownE "Plan" ["Plan", "Rules"] 8 (.fld "Rules" "own_plan" (.rd 0)) (.fld "Rules" "own_plan" (.rd 1))) (.one (.deq (.fld "Rules" "told_of" (.rd 0)) (.fld "Rules" "told_of" (.rd 1))))))) .nil)
def fd18 : FD := ⟨2, 2, [], ir18⟩
def ir19 : Ss := (.cons (.ife (.not (.v (.isc "Rules" ["Plan", "Rules"] (.rd 1)))) (.cons (.rais 3 (.rd 1)) .nil) .nil) (.cons (.asg 2 (.ife (.v (.ownN "Plan" 8 (.fld "Rules" "own_plan" (.rd 0)) (.fld "Rules" "own_plan" (.rd 1)))) (.lst (.cons (.str "plan") .nil)) (.lst .nil))) (.cons (.ret (.op .Add (.rd 2) (.lc [3] (.var 3) (.kk 2) (.cons (.v (.cmp .NotEq (.ix (.fld "Rules" "told_of" (.rd 0)) (.rd 3)) (.ix (.fld "Rules" "told_of" (.rd 1)) (.rd 3)))) .nil) (.rd 3)))) .nil)))
def fd19 : FD := ⟨2, 4, [], ir19⟩
def ir20 : Ss := (.cons (.asg 2 (.int 0)) (.cons (.ife (.v (.cmp .Lt (.rd 1) (.bi .len (.cons (.rd 0) .nil)))) (.cons (.asg 2 (.ix (.rd 0) (.rd 1))) .nil) .nil) (.cons (.asg 3 (.bi .max (.cons (.bi .int (.cons (.rd 2) .nil)) (.cons (.bi .int (.cons (.op .Sub (.neg (.int 1)) (.rd 2)) .nil)) .nil)))) (.cons (.asg 4 (.op .Mod (.bi .int (.cons (.op .Mult (.op .Add (.op .Add (.op .Add (.op .Mod (.bi .int (.cons (.rd 3) .nil)) (.int 2147483629)) (.op .Mult (.op .Mult (.int 7919) (.rd 1)) (.rd 1))) (.op .Mult (.int 31) (.rd 1))) (.int 17)) (.int 48271)) .nil)) (.int 2147483647))) (.cons (.ret (.lst (.cons (.op .Mult (.rd 3) (.bi .int (.cons (.cmp .GtE (.rd 3) (.op .Pow (.int 10) (.int 18))) .nil))) (.cons (.rd 4) .nil)))) .nil)))))
def fd20 : FD := ⟨2, 5, [], ir20⟩
def ir21 : Ss := (.cons (.ife (.v (.cmp .Gt (.rdx 0 (.int 0)) (.int 0))) (.cons (.asg 2 (.op .Mod (.bi .int (.cons (.rdx 0 (.int 0)) .nil)) (.rd 1))) (.cons (.setx 0 (.int 0) (.op .FloorDiv (.rdx 0 (.int 0)) (.rd 1))) (.cons (.retv 2) .nil))) .nil) (.cons (.setx 0 (.int 1) (.op .Mod (.bi .int (.cons (.op .Add (.op .Mult (.rdx 0 (.int 1)) (.int 39373)) (.int 7)) .nil)) (.int 2147483647))) (.cons (.ret (.op .Mod (.bi .int (.cons (.op .FloorDiv (.op .Mod (.bi .int (.cons (.op .Mult (.rdx 0 (.int 1)) (.rdx 0 (.int 1))) .nil)) (.int 2147483629)) (.int 32)) .nil)) (.rd 1))) .nil)))
def fd21 : FD := ⟨2, 3, [0], ir21⟩
def ir22 : Ss := (.cons (.ret (.ix (.rd 1) (.call 21 (.io 0 (.cons (.bi .len (.cons (.rd 1) .nil)) .nil)) []))) .nil)
def fd22 : FD := ⟨2, 2, [0], ir22⟩
def ir23 : Ss := (.cons (.par [2, 3] (.cons (.bi .list (.cons (.rd 1) .nil)) (.cons (.lst .nil) .nil))) (.cons (.whl 12 (.v (.cmpv .NotEq 2 (.lst .nil))) (.cons (.app 3 (.popv 2 (.call 21 (.io 0 (.cons (.lenv 2) .nil)) []))) .nil)) (.cons (.retv 3) .nil)))
def fd23 : FD := ⟨2, 4, [0], ir23⟩
def ir24 : Ss := (.cons (.asg 1 (.op .Add (.lst (.cons (.str "ack") (.cons (.str "data 0") (.cons (.str "data 1") .nil)))) (.lc [3] (.var 3) (.e (.lst (.cons (.str "mark 0") (.cons (.str "mark 1") .nil)))) (.cons (.v (.cmp .Gt (.call 21 (.io 0 (.cons (.int 3) .nil)) []) (.int 0))) .nil) (.rd 3)))) (.cons (.asg 2 (.lst .nil)) (.cons (.for_ (.var 3) (.e (.call 23 (.io 0 (.cons (.rd 1) .nil)) [])) (.cons (.ife (.or (.v (.cmpv .Eq 2 (.lst .nil))) (.one (.v (.cmp .Eq (.call 21 (.io 0 (.cons (.int 2) .nil)) []) (.int 0))))) (.cons (.app 2 (.lst .nil)) .nil) .nil) (.cons (.appx 2 (.neg (.int 1)) (.rd 3)) .nil))) (.cons (.ret (.lc [4] (.var 4) (.e (.rd 2)) .nil (.bi .tuple (.cons (.rd 4) .nil)))) .nil))))
def fd24 : FD := ⟨1, 5, [0], ir24⟩
def ir25 : Ss := (.cons (.asg 0 (.dct [.inr "clear", .inr "flag", .inr "unflag"] (.cons (.lst (.cons (.str "quiet") (.cons (.str "any") .nil))) (.cons (.lst (.cons (.str "first") (.cons (.str "ahead") (.cons (.str "late") .nil)))) (.cons (.lst (.cons (.str "early") (.cons (.str "ahead") (.cons (.str "behind") .nil)))) .nil))))) (.cons (.setx 0 (.str "start") (.lst (.cons (.str "any") (.cons (.str "flagged") (.cons (.str "both") .nil))))) (.cons (.setx 0 (.str "choice") (.lst (.cons (.int 0) (.cons (.int 1) .nil)))) (.cons (.setx 0 (.str "copied") (.lst (.cons (.str "both") (.cons (.str "source") .nil)))) (.cons (.setx 0 (.str "lock") (.lst (.cons (.str "lock") (.cons (.str "again") (.cons (.str "none") .nil))))) (.cons (.setx 0 (.str "held") (.lst (.cons (.bl true) (.cons (.bl false) .nil)))) (.cons (.setx 0 (.str "read") (.lst (.cons (.str "source") (.cons (.str "any") .nil)))) (.cons (.retv 0) .nil))))))))
def fd25 : FD := ⟨0, 1, [], ir25⟩
def ir26 : Ss := (.cons (.asg 0 (.dct [.inr "clear", .inr "flag", .inr "unflag", .inr "start", .inr "choice"] (.cons (.str "quiet") (.cons (.str "ahead") (.cons (.str "ahead") (.cons (.str "flagged") (.cons (.int 0) .nil))))))) (.cons (.setx 0 (.str "copied") (.str "both")) (.cons (.setx 0 (.str "lock") (.str "lock")) (.cons (.setx 0 (.str "held") (.bl true)) (.cons (.setx 0 (.str "read") (.str "source")) (.cons (.retv 0) .nil))))))
def fd26 : FD := ⟨0, 1, [], ir26⟩
def ir27 : Ss := (.cons (.par [2, 3] (.cons (.call 25 .nil []) (.cons (.call 26 .nil []) .nil))) (.cons (.for_ (.var 1) (.keysv 2) (.cons (.ife (.v (.cmp .Eq (.call 21 (.io 0 (.cons (.int 2) .nil)) []) (.int 0))) (.cons (.setx 3 (.rd 1) (.call 22 (.io 0 (.cons (.ix (.rd 2) (.rd 1)) .nil)) [])) .nil) .nil) .nil)) (.cons (.retv 3) .nil)))
def fd27 : FD := ⟨1, 4, [0], ir27⟩
def ir28 : Ss := (.cons (.ret (.new "Rules" 12 (.cons (.call 6 (.cons (.rd 0) .nil) []) .nil) (.cons (.ix (.rd 1) (.str "clear")) (.cons (.ix (.rd 1) (.str "flag")) (.cons (.ix (.rd 1) (.str "unflag")) (.cons (.ix (.rd 1) (.str "start")) (.cons (.ix (.rd 1) (.str "choice")) (.cons (.ix (.rd 1) (.str "copied")) (.cons (.ix (.rd 1) (.str "lock")) (.cons (.ix (.rd 1) (.str "held")) (.cons (.ix (.rd 1) (.str "read")) .nil))))))))) [.p 0, .k 0, .k 1, .k 2, .k 3, .k 4, .k 5, .k 6, .k 7, .k 8])) .nil)
def fd28 : FD := ⟨2, 2, [], ir28⟩
def fds : List FD := [fd0, fd1, fd2, fd3, fd4, fd5, fd6, fd7, fd8, fd9, fd10, fd11, fd12, fd13, fd14, fd15, fd16, fd17, fd18, fd19, fd20, fd21, fd22, fd23, fd24, fd25, fd26, fd27, fd28]
def cs0 : T := (.tup [(.str "ack"), (.str "data 0"), (.str "data 1"), (.str "mark 0"), (.str "mark 1")])
def cs1 : T := (.tup [(.str "ack"), (.str "data 0"), (.str "data 1")])
def cs2 : T := .nd (.dct (inrs ["clear", "flag", "unflag", "start", "choice", "copied", "lock", "held", "read"])) [(.tup [(.str "quiet"), (.str "any")]), (.tup [(.str "first"), (.str "ahead"), (.str "late")]), (.tup [(.str "early"), (.str "ahead"), (.str "behind")]), (.tup [(.str "any"), (.str "flagged"), (.str "both")]), (.tup [(.int 0), (.int 1)]), (.tup [(.str "both"), (.str "source")]), (.tup [(.str "lock"), (.str "again"), (.str "none")]), (.tup [(.bl true), (.bl false)]), (.tup [(.str "source"), (.str "any")])]
end Sh
namespace Zk71
open PySem L2 Ev
def tx : Tx where
  fs := [some (.glo "is_integer", [], 1), some (.glo "is_between", [], 3), some (.glo "is_row", [], 1), none, none, none, none, none, none, none, none, none, none, none, none, none, none, none, none, none, some (.glo "_law_pool", [], 2), some (.glo "_law_take", [0], 2), none, none, none, none, none, none, none, some (.glo "law", [], 1), some (.glo "_law_refused", [], 0), none, some (.glo "_law_price", [], 5), none, some (.glo "most_copied", [], 3), some (.glo "touched", [], 3), none, some (.glo "spread", [], 3), some (.glo "packed", [], 3), some (.glo "most_touched", [], 3), some (.glo "least_touched", [], 3), some (.glo "least_copied", [], 3), some (.glo "copied", [], 3), some (.glo "check_number", [], 3), some (.glo "check_store", [], 3), some (.glo "check_written", [], 2), some (.glo "raised", [], 2), some (.glo "length_of", [], 3)]
  bl := ["range", "max", "min", "len", "enumerate", "int", "sorted", "list", "sum", "all", "isinstance", "tuple", "bool", "super"]
  cs := [("STEPS", Sh.cs0), ("NEEDED", Sh.cs1), ("MENU", Sh.cs2), ("MOST", (.int 10000)), ("MOST_TRIED", (.int 300))]
  fa := [.free "range", .free "max", .free "min", .free "len", .glo "best_sizes", .glo "_law_caught", .exm "BadNumber" ["BadNumber"] [0], .glo "price", .free "enumerate", .free "int", .con "MOST" (.int 10000), .con "MOST_TRIED" (.int 300), .free "sorted", .free "list", .free "sum", .free "all", .free "isinstance", .free "tuple", .free "bool", .glo "is_integer", .glo "is_between", .glo "is_row", .glo "_law_pool", .glo "_law_take", .glo "law", .glo "_law_refused", .glo "_law_price", .glo "most_copied", .glo "touched", .glo "spread", .glo "packed", .glo "most_touched", .glo "least_touched", .glo "least_copied", .glo "copied", .glo "check_number", .glo "check_store", .glo "check_written", .glo "raised", .glo "length_of", .free "super", .exc "BadNumber" "RegionsError"]
  mks := []
  ms := []
  xs := ["BadNumber"]
  cw := [⟨"best_sizes", 31, 2, [], [.p 0, .p 1, .d 0 (.int 1), .d 1 (.int 1)], [(.int 1), (.int 1)]⟩, ⟨"best_sizes", 31, 2, ["copy", "mark"], [.p 0, .p 1, .k 0, .k 1], []⟩, ⟨"best_sizes", 31, 2, ["mark"], [.p 0, .p 1, .d 0 (.int 1), .k 0], [(.int 1)]⟩, ⟨"price", 36, 3, ["copy", "mark"], [.p 0, .p 1, .p 2, .k 0, .k 1], []⟩, ⟨"price", 36, 3, ["copy"], [.p 0, .p 1, .p 2, .k 0, .d 0 (.int 1)], [(.int 1)]⟩]
def ir20 : Ss := (.cons (.asg 2 (.ife (.v (.cmp .Lt (.rd 1) (.bi .len (.cons (.rd 0) .nil)))) (.ix (.rd 0) (.rd 1)) (.int 0))) (.cons (.asg 3 (.op .Mult (.bi .int (.cons (.op .Add (.op .Add (.op .Mod (.bi .int (.cons (.rd 2) .nil)) (.int 2147483629)) (.op .Mult (.op .Mult (.int 7919) (.rd 1)) (.rd 1))) (.int 13)) .nil)) (.int 48271))) (.cons (.ret (.lst (.cons (.ife (.v (.cmp .GtE (.rd 2) (.op .Pow (.int 10) (.int 18)))) (.rd 2) (.int 0)) (.cons (.op .Add (.op .Mod (.bi .int (.cons (.rd 3) .nil)) (.int 2147483647)) (.int 1)) .nil)))) .nil)))
def fd20 : FD := ⟨2, 4, [], ir20⟩
def ir21 : Ss := (.cons (.ife (.v (.cmp .Gt (.rdx 0 (.int 0)) (.int 0))) (.cons (.asg 2 (.op .Mod (.bi .int (.cons (.rdx 0 (.int 0)) .nil)) (.rd 1))) (.cons (.setx 0 (.int 0) (.op .FloorDiv (.rdx 0 (.int 0)) (.rd 1))) (.cons (.retv 2) .nil))) .nil) (.cons (.setx 0 (.int 1) (.op .Mod (.bi .int (.cons (.op .Add (.op .Mult (.rdx 0 (.int 1)) (.int 48271)) (.int 11)) .nil)) (.int 2147483647))) (.cons (.ret (.op .Mod (.op .FloorDiv (.op .Mod (.bi .int (.cons (.op .Mult (.rdx 0 (.int 1)) (.rdx 0 (.int 1))) .nil)) (.int 2147483629)) (.int 64)) (.rd 1))) .nil)))
def fd21 : FD := ⟨2, 3, [0], ir21⟩
def ir29 : Ss := (.cons (.for_ (.var 1) (.rng (.bi .max (.cons (.int 1) (.cons (.bi .min (.cons (.bi .len (.cons (.rd 0) .nil)) (.cons (.int 3) .nil))) .nil))) .no) (.cons (.asg 2 (.call 20 (.cons (.rd 0) (.cons (.rd 1) .nil)) [])) (.cons (.asg 3 (.op .Add (.int 1) (.call 21 (.iol 2 (.cons (.ix (.lst (.cons (.int 12) (.cons (.int 300) .nil))) (.call 21 (.io 2 (.cons (.int 2) .nil)) [])) .nil)) []))) (.cons (.asgT [6, 7, 8] (.tup (.cons (.op .Add (.int 1) (.call 21 (.io 2 (.cons (.rd 3) .nil)) [])) (.cons (.call 21 (.io 2 (.cons (.int 30) .nil)) []) (.cons (.call 21 (.io 2 (.cons (.int 30) .nil)) []) .nil))))) (.cons (.asg 4 (.lc [9] (.var 9) (.rng (.int 1) (.so (.op .Add (.rd 3) (.int 1)))) .nil (.call 32 (.cons (.rd 3) (.cons (.rd 9) (.cons (.rd 6) (.cons (.rd 7) (.cons (.rd 8) .nil))))) []))) (.cons (.asg 5 (.lc [10] (.var 10) (.rng (.rd 3) .no) (.cons (.v (.cmp .Eq (.ix (.rd 4) (.rd 10)) (.bi .min (.cons (.rd 4) .nil)))) .nil) (.op .Add (.rd 10) (.int 1)))) (.cons (.ife (.v (.cmp .NotEq (.callw 31 (.cons (.rd 3) (.cons (.rd 6) .nil)) (.cons (.rd 7) (.cons (.rd 8) .nil)) [.p 0, .p 1, .k 0, .k 1]) (.rd 5))) (.cons (.ret (.bl false)) .nil) .nil) (.cons (.ife (.v (.cmp .NotEq (.callw 31 (.cons (.rd 3) (.cons (.rd 6) .nil)) .nil [.p 0, .p 1, .d 0 (.int 1), .d 1 (.int 1)]) (.callw 31 (.cons (.rd 3) (.cons (.rd 6) .nil)) (.cons (.int 1) (.cons (.int 1) .nil)) [.p 0, .p 1, .k 0, .k 1]))) (.cons (.ret (.bl false)) .nil) .nil) .nil)))))))) (.cons (.ret (.call 30 .nil [])) .nil))
def fd29 : FD := ⟨1, 11, [], ir29⟩
def ir30 : Ss := (.cons (.for_ (.var 0) (.e (.lst (.cons .non (.cons (.int 0) (.cons (.neg (.int 1)) (.cons (.bl true) (.cons (.str "5") (.cons (.int 10001) .nil)))))))) (.cons (.asg 1 (.lst (.cons (.str "number") (.cons (.rd 0) .nil)))) (.cons (.asg 2 (.lst (.cons (.lamA false [([0], (.row [(.str "number")] false []))] [] [0] (.call 35 (.cons (.rd 0) (.cons .non (.cons .non .nil))) [])) (.cons (.lamA false [([0], (.row [(.str "number")] false []))] [.int 0] [0] (.call 42 (.cons (.rd 1) (.cons .non (.cons .non .nil))) [])) .nil)))) (.cons (.app 2 (.lamA false [([0], (.row [(.str "number")] false []))] [] [0] (.call 41 (.cons (.int 5) (.cons (.rd 0) (.cons .non .nil))) []))) (.cons (.app 2 (.lamA false [([0], (.row [(.str "number")] false []))] [] [0] (.call 34 (.cons (.int 5) (.cons (.rd 0) (.cons .non .nil))) []))) (.cons (.app 2 (.lamA false [([0], (.row [(.str "number")] false []))] [] [0] (.call 40 (.cons (.rd 0) (.cons .non (.cons .non .nil))) []))) (.cons (.app 2 (.lamA false [([0], (.row [(.str "number")] false []))] [] [0] (.call 39 (.cons (.int 5) (.cons (.int 2) (.cons (.rd 0) .nil))) []))) (.cons (.app 2 (.lamA false [([0], (.row [(.str "number")] false []))] [] [0] (.call 38 (.cons (.int 5) (.cons (.int 2) (.cons (.rd 0) .nil))) []))) (.cons (.app 2 (.lamA false [([0], (.row [(.str "number")] false []))] [] [0] (.call 37 (.cons (.int 5) (.cons (.rd 0) (.cons .non .nil))) []))) (.cons (.app 2 (.lamA false [([0], (.row [(.str "number")] false []))] [] [0] (.callw 36 (.cons (.int 5) (.cons (.int 2) (.cons (.rd 0) .nil))) (.cons .non .nil) [.p 0, .p 1, .p 2, .k 0, .d 0 (.int 1)]))) (.cons (.app 2 (.lamA false [([0], (.row [(.str "number")] false []))] [] [0] (.callw 31 (.cons (.rd 0) (.cons .non .nil)) .nil [.p 0, .p 1, .d 0 (.int 1), .d 1 (.int 1)]))) (.cons (.ife (.v (.cmpv .NotEq 2 (.op .Mult (.lst (.cons (.rd 1) .nil)) (.int 10)))) (.cons (.ret (.bl false)) .nil) .nil) .nil)))))))))))) (.cons (.for_ (.var 0) (.e (.lst (.cons .non (.cons (.neg (.int 1)) (.cons (.bl true) (.cons (.str "5") (.cons (.int 10001) .nil))))))) (.cons (.ife (.v (.cmp .NotEq (.lamA false [([0], (.row [(.str "number")] false []))] [] [0] (.callw 36 (.cons (.int 5) (.cons (.int 2) (.cons (.int 2) .nil))) (.cons (.rd 0) (.cons .non .nil)) [.p 0, .p 1, .p 2, .k 0, .k 1])) (.lst (.cons (.str "number") (.cons (.rd 0) .nil))))) (.cons (.ret (.bl false)) .nil) .nil) (.cons (.ife (.v (.cmp .NotEq (.lamA false [([0], (.row [(.str "number")] false []))] [] [0] (.callw 31 (.cons (.int 5) (.cons (.int 2) .nil)) (.cons (.rd 0) .nil) [.p 0, .p 1, .d 0 (.int 1), .k 0])) (.lst (.cons (.str "number") (.cons (.rd 0) .nil))))) (.cons (.ret (.bl false)) .nil) .nil) .nil))) (.cons (.for_ (.var 0) (.e (.lst (.cons .non (.cons (.int 5) (.cons (.lst (.cons (.int 5) .nil)) (.cons (.lst (.cons (.neg (.int 1)) .nil)) (.cons (.lst (.cons (.int 0) (.cons (.int 0) .nil))) (.cons (.lst (.cons (.str "0") .nil)) (.cons (.lst (.cons (.bl true) .nil)) (.cons (.dct [.inl 0] (.cons (.int 0) .nil)) (.cons (.lst (.cons .non .nil)) .nil))))))))))) (.cons (.ife (.v (.neE (.lamA false [([0], (.row [(.str "number")] false []))] [] [0] (.call 35 (.cons (.int 5) (.cons (.int 2) (.cons (.rd 0) .nil))) [])) (.lst (.cons (.str "number") (.cons (.rd 0) .nil))))) (.cons (.ret (.bl false)) .nil) .nil) .nil)) (.cons (.ret (.and (.cmp .Eq (.lamA false [([0], (.row [(.str "number")] false []))] [] [] (.call 34 (.cons (.int 5) (.cons (.int 2) (.cons (.int 6) .nil))) [])) (.lst (.cons (.str "number") (.cons (.int 6) .nil)))) (.one (.cmp .Eq (.call 35 (.cons (.int 5) (.cons (.int 2) (.cons (.lst .nil) .nil))) []) (.lst .nil))))) .nil))))
def fd30 : FD := ⟨0, 3, [], ir30⟩
def ir31 : Ss := (.cons (.expr (.call 43 (.cons (.rd 0) (.cons (.int 1) (.cons (.cst 4) .nil))) [])) (.cons (.expr (.call 43 (.cons (.rd 1) (.cons (.int 1) (.cons (.rd 0) .nil))) [])) (.cons (.expr (.call 43 (.cons (.rd 2) (.cons (.int 0) (.cons (.cst 3) .nil))) [])) (.cons (.expr (.call 43 (.cons (.rd 3) (.cons (.int 0) (.cons (.cst 3) .nil))) [])) (.cons (.asg 4 (.lc [6] (.var 6) (.rng (.int 1) (.so (.op .Add (.rd 0) (.int 1)))) .nil (.callw 36 (.cons (.rd 0) (.cons (.rd 6) (.cons (.rd 1) .nil))) (.cons (.rd 2) (.cons (.rd 3) .nil)) [.p 0, .p 1, .p 2, .k 0, .k 1]))) (.cons (.asg 5 (.bi .min (.cons (.lc [7] (.var 7) (.e (.rd 4)) .nil (.bi .int (.cons (.rd 7) .nil))) .nil))) (.cons (.ret (.lc [6, 7] (.tup [6, 7]) (.enum (.rd 4)) (.cons (.v (.cmp .Eq (.rd 7) (.rd 5))) .nil) (.op .Add (.rd 6) (.int 1)))) .nil)))))))
def fd31 : FD := ⟨4, 8, [], ir31⟩
def ir32 : Ss := (.cons (.asg 5 (.op .FloorDiv (.op .Sub (.op .Add (.rd 0) (.rd 1)) (.int 1)) (.rd 1))) (.cons (.ret (.op .Add (.op .Mult (.rd 3) (.bi .min (.cons (.op .Mult (.rd 2) (.rd 1)) (.cons (.rd 0) .nil)))) (.op .Mult (.rd 4) (.bi .min (.cons (.rd 2) (.cons (.rd 5) .nil)))))) .nil))
def fd32 : FD := ⟨5, 6, [], ir32⟩
def ir33 : Ss := .nil
def fd33 : FD := ⟨1, 3, [], ir33⟩
def ir34 : Ss := (.cons (.expr (.call 44 (.cons (.rd 0) (.cons (.rd 1) (.cons (.rd 2) .nil))) [])) (.cons (.ret (.bi .min (.cons (.op .Mult (.bi .int (.cons (.rd 2) .nil)) (.bi .int (.cons (.rd 1) .nil))) (.cons (.bi .int (.cons (.rd 0) .nil)) .nil)))) .nil))
def fd34 : FD := ⟨3, 3, [], ir34⟩
def ir35 : Ss := (.cons (.expr (.call 43 (.cons (.rd 0) (.cons (.int 1) (.cons (.cst 3) .nil))) [])) (.cons (.expr (.call 43 (.cons (.rd 1) (.cons (.int 1) (.cons (.cst 3) .nil))) [])) (.cons (.expr (.call 45 (.cons (.rd 0) (.cons (.rd 2) .nil)) [])) (.cons (.ret (.srtS (.sc [3] (.var 3) (.e (.rd 2)) .nil (.op .FloorDiv (.bi .int (.cons (.rd 3) .nil)) (.rd 1))))) .nil))))
def fd35 : FD := ⟨3, 4, [], ir35⟩
def ir36 : Ss := (.cons (.expr (.call 44 (.cons (.rd 0) (.cons (.rd 1) (.cons (.rd 2) .nil))) [])) (.cons (.expr (.call 43 (.cons (.rd 3) (.cons (.int 0) (.cons (.cst 3) .nil))) [])) (.cons (.expr (.call 43 (.cons (.rd 4) (.cons (.int 0) (.cons (.cst 3) .nil))) [])) (.cons (.ret (.op .Add (.op .Mult (.rd 3) (.call 34 (.cons (.rd 0) (.cons (.rd 1) (.cons (.rd 2) .nil))) [])) (.op .Mult (.rd 4) (.call 39 (.cons (.rd 0) (.cons (.rd 1) (.cons (.rd 2) .nil))) [])))) .nil))))
def fd36 : FD := ⟨5, 5, [], ir36⟩
def ir37 : Ss := (.cons (.expr (.call 44 (.cons (.rd 0) (.cons (.rd 1) (.cons (.rd 2) .nil))) [])) (.cons (.asg 3 (.sl (.lrng3 (.int 0) (.rd 0) (.rd 1)) .no (.so (.rd 2)))) (.cons (.asg 4 (.lc [5] (.var 5) (.rng (.rd 0) .no) (.cons (.v (.cmp .NotEq (.op .Mod (.rd 5) (.rd 1)) (.int 0))) .nil) (.rd 5))) (.cons (.ret (.bi .sorted (.cons (.lc [5] (.var 5) (.e (.op .Add (.rd 3) (.sl (.rd 4) .no (.so (.op .Sub (.rd 2) (.bi .len (.cons (.rd 3) .nil))))))) .nil (.bi .int (.cons (.rd 5) .nil))) .nil))) .nil))))
def fd37 : FD := ⟨3, 6, [], ir37⟩
def ir38 : Ss := (.cons (.expr (.call 44 (.cons (.rd 0) (.cons (.rd 1) (.cons (.rd 2) .nil))) [])) (.cons (.asg 3 (.op .Mod (.rd 0) (.rd 1))) (.cons (.asg 4 (.lrng (.rd 2) .no)) (.cons (.ife (.v (.cmp .Eq (.rd 3) (.int 0))) (.cons (.retv 4) .nil) .nil) (.cons (.asg 5 (.bi .min (.cons (.bi .int (.cons (.rd 2) .nil)) (.cons (.rd 3) .nil)))) (.cons (.asg 6 (.op .Add (.lrng (.op .Sub (.rd 2) (.rd 5)) .no) (.lrng (.op .Sub (.rd 0) (.rd 5)) (.so (.rd 0))))) (.cons (.ret (.ife (.v (.cmp .Lt (.call 42 (.cons (.rd 0) (.cons (.rd 1) (.cons (.rd 6) .nil))) []) (.call 42 (.cons (.rd 0) (.cons (.rd 1) (.cons (.rd 4) .nil))) []))) (.rd 6) (.rd 4))) .nil)))))))
def fd38 : FD := ⟨3, 7, [], ir38⟩
def ir39 : Ss := (.cons (.expr (.call 44 (.cons (.rd 0) (.cons (.rd 1) (.cons (.rd 2) .nil))) [])) (.cons (.ret (.bi .min (.cons (.bi .int (.cons (.rd 2) .nil)) (.cons (.call 46 (.cons (.rd 0) (.cons (.rd 1) .nil)) []) .nil)))) .nil))
def fd39 : FD := ⟨3, 3, [], ir39⟩
def ir40 : Ss := (.cons (.expr (.call 44 (.cons (.rd 0) (.cons (.rd 1) (.cons (.rd 2) .nil))) [])) (.cons (.ret (.call 46 (.cons (.rd 2) (.cons (.rd 1) .nil)) [])) .nil))
def fd40 : FD := ⟨3, 3, [], ir40⟩
def ir41 : Ss := (.cons (.ret (.call 42 (.cons (.rd 0) (.cons (.rd 1) (.cons (.call 38 (.cons (.rd 0) (.cons (.rd 1) (.cons (.rd 2) .nil))) []) .nil))) [])) .nil)
def fd41 : FD := ⟨3, 3, [], ir41⟩
def ir42 : Ss := (.cons (.ret (.bi .sum (.cons (.lc [3] (.var 3) (.e (.call 35 (.cons (.rd 0) (.cons (.rd 1) (.cons (.rd 2) .nil))) [])) .nil (.call 47 (.cons (.rd 0) (.cons (.rd 1) (.cons (.rd 3) .nil))) [])) .nil))) .nil)
def fd42 : FD := ⟨3, 4, [], ir42⟩
def ir43 : Ss := (.cons (.ife (.not (.v (.call 1 (.cons (.rd 0) (.cons (.rd 1) (.cons (.rd 2) .nil))) []))) (.cons (.rais 0 (.rd 0)) .nil) .nil) .nil)
def fd43 : FD := ⟨3, 3, [], ir43⟩
def ir44 : Ss := (.cons (.expr (.call 43 (.cons (.rd 0) (.cons (.int 1) (.cons (.cst 3) .nil))) [])) (.cons (.expr (.call 43 (.cons (.rd 1) (.cons (.int 1) (.cons (.cst 3) .nil))) [])) (.cons (.expr (.call 43 (.cons (.rd 2) (.cons (.int 1) (.cons (.rd 0) .nil))) [])) .nil)))
def fd44 : FD := ⟨3, 3, [], ir44⟩
def ir45 : Ss := (.cons (.ife (.or (.not (.v (.call 2 (.cons (.rd 1) .nil) []))) (.one (.not (.v (.bi .all (.cons (.lc [2] (.var 2) (.e (.rd 1)) .nil (.call 1 (.cons (.rd 2) (.cons (.int 0) (.cons (.op .Sub (.rd 0) (.int 1)) .nil))) [])) .nil)))))) (.cons (.rais 0 (.rd 1)) .nil) .nil) (.cons (.ife (.v (.cmp .Lt (.lenS (.sc [2] (.var 2) (.e (.rd 1)) .nil (.rd 2))) (.bi .len (.cons (.rd 1) .nil)))) (.cons (.rais 0 (.rd 1)) .nil) .nil) .nil))
def fd45 : FD := ⟨2, 3, [], ir45⟩
def ir46 : Ss := (.cons (.ret (.op .FloorDiv (.op .Sub (.op .Add (.rd 0) (.rd 1)) (.int 1)) (.rd 1))) .nil)
def fd46 : FD := ⟨2, 2, [], ir46⟩
def ir47 : Ss := (.cons (.ret (.bi .min (.cons (.bi .int (.cons (.rd 1) .nil)) (.cons (.op .Sub (.bi .int (.cons (.rd 0) .nil)) (.op .Mult (.bi .int (.cons (.rd 2) .nil)) (.bi .int (.cons (.rd 1) .nil)))) .nil)))) .nil)
def fd47 : FD := ⟨3, 3, [], ir47⟩
def tabL : List FD := ((Sh.fds.set 20 fd20).set 21 fd21) ++ [fd29, fd30, fd31, fd32, fd33, fd34, fd35, fd36, fd37, fd38, fd39, fd40, fd41, fd42, fd43, fd44, fd45, fd46, fd47]
def tab (i : Nat) : Option FD := tabL[i]?
end Zk71
namespace Zk71.H
open PySem L2 Ev
def lams : List Str := ["_law_refused"]
def top (i : Nat) : Stmt := PySem.Challenge.pw_markedregions_k71_whole_best_sizes_by_tr.main.body.getD i (.Pass ⟨0, 0, 0, 0⟩)
abbrev st0 : Stmt := top 1
abbrev st1 : Stmt := top 2
abbrev st2 : Stmt := top 3
abbrev st20 : Stmt := top 26
abbrev st21 : Stmt := top 27
abbrev st29 : Stmt := top 31
abbrev st30 : Stmt := top 30
abbrev st31 : Stmt := top 24
abbrev st32 : Stmt := top 28
abbrev st33 : Stmt := top 29
abbrev st34 : Stmt := top 20
abbrev st35 : Stmt := top 13
abbrev st36 : Stmt := top 23
abbrev st37 : Stmt := top 22
abbrev st38 : Stmt := top 21
abbrev st39 : Stmt := top 18
abbrev st40 : Stmt := top 17
abbrev st41 : Stmt := top 19
abbrev st42 : Stmt := top 15
abbrev st43 : Stmt := top 10
abbrev st44 : Stmt := top 11
abbrev st45 : Stmt := top 12
abbrev st46 : Stmt := top 16
abbrev st47 : Stmt := top 14
def dd0 : He5.DefA := ⟨fun K => Ad.at_ K (.glo "is_integer"), "is_integer", "is_integer", defArgs st0, defBody st0, defScope st0, [], []⟩
def dd1 : He5.DefA := ⟨fun K => Ad.at_ K (.glo "is_between"), "is_between", "is_between", defArgs st1, defBody st1, defScope st1, [], []⟩
def dd2 : He5.DefA := ⟨fun K => Ad.at_ K (.glo "is_row"), "is_row", "is_row", defArgs st2, defBody st2, defScope st2, [], []⟩
def dd20 : He5.DefA := ⟨fun K => Ad.at_ K (.glo "_law_pool"), "_law_pool", "_law_pool", defArgs st20, defBody st20, defScope st20, [], []⟩
def dd21 : He5.DefA := ⟨fun K => Ad.at_ K (.glo "_law_take"), "_law_take", "_law_take", defArgs st21, defBody st21, defScope st21, [], []⟩
def dd29 : He5.DefA := ⟨fun K => Ad.at_ K (.glo "law"), "law", "law", defArgs st29, defBody st29, defScope st29, [], []⟩
def dd30 : He5.DefA := ⟨fun K => Ad.at_ K (.glo "_law_refused"), "_law_refused", "_law_refused", defArgs st30, defBody st30, defScope st30, [], []⟩
def dd31 : He5.DefA := ⟨fun K => Ad.at_ K (.glo "best_sizes"), "best_sizes", "best_sizes", defArgs st31, defBody st31, defScope st31, [], [("copy", .int 1), ("mark", .int 1)]⟩
def dd32 : He5.DefA := ⟨fun K => Ad.at_ K (.glo "_law_price"), "_law_price", "_law_price", defArgs st32, defBody st32, defScope st32, [], []⟩
def dd33 : He5.DefA := ⟨fun K => Ad.at_ K (.glo "_law_caught"), "_law_caught", "_law_caught", defArgs st33, defBody st33, defScope st33, [], []⟩
def dd34 : He5.DefA := ⟨fun K => Ad.at_ K (.glo "most_copied"), "most_copied", "most_copied", defArgs st34, defBody st34, defScope st34, [], []⟩
def dd35 : He5.DefA := ⟨fun K => Ad.at_ K (.glo "touched"), "touched", "touched", defArgs st35, defBody st35, defScope st35, [], []⟩
def dd36 : He5.DefA := ⟨fun K => Ad.at_ K (.glo "price"), "price", "price", defArgs st36, defBody st36, defScope st36, [], [("copy", .int 1), ("mark", .int 1)]⟩
def dd37 : He5.DefA := ⟨fun K => Ad.at_ K (.glo "spread"), "spread", "spread", defArgs st37, defBody st37, defScope st37, [], []⟩
def dd38 : He5.DefA := ⟨fun K => Ad.at_ K (.glo "packed"), "packed", "packed", defArgs st38, defBody st38, defScope st38, [], []⟩
def dd39 : He5.DefA := ⟨fun K => Ad.at_ K (.glo "most_touched"), "most_touched", "most_touched", defArgs st39, defBody st39, defScope st39, [], []⟩
def dd40 : He5.DefA := ⟨fun K => Ad.at_ K (.glo "least_touched"), "least_touched", "least_touched", defArgs st40, defBody st40, defScope st40, [], []⟩
def dd41 : He5.DefA := ⟨fun K => Ad.at_ K (.glo "least_copied"), "least_copied", "least_copied", defArgs st41, defBody st41, defScope st41, [], []⟩
def dd42 : He5.DefA := ⟨fun K => Ad.at_ K (.glo "copied"), "copied", "copied", defArgs st42, defBody st42, defScope st42, [], []⟩
def dd43 : He5.DefA := ⟨fun K => Ad.at_ K (.glo "check_number"), "check_number", "check_number", defArgs st43, defBody st43, defScope st43, [], []⟩
def dd44 : He5.DefA := ⟨fun K => Ad.at_ K (.glo "check_store"), "check_store", "check_store", defArgs st44, defBody st44, defScope st44, [], []⟩
def dd45 : He5.DefA := ⟨fun K => Ad.at_ K (.glo "check_written"), "check_written", "check_written", defArgs st45, defBody st45, defScope st45, [], []⟩
def dd46 : He5.DefA := ⟨fun K => Ad.at_ K (.glo "raised"), "raised", "raised", defArgs st46, defBody st46, defScope st46, [], []⟩
def dd47 : He5.DefA := ⟨fun K => Ad.at_ K (.glo "length_of"), "length_of", "length_of", defArgs st47, defBody st47, defScope st47, [], []⟩
def fn : List He5.DefA := [dd0, dd1, dd2, dd20, dd21, dd29, dd30, dd31, dd32, dd33, dd34, dd35, dd36, dd37, dd38, dd39, dd40, dd41, dd42, dd43, dd44, dd45, dd46, dd47]
abbrev stx : Stmt := L2.inClass (top 5) 0
def xd0 : XD := ⟨"RegionsError", "RegionsError.__init__", defArgs stx, defBody stx, defScope stx, PySem.Challenge.pw_markedregions_k71_whole_best_sizes_by_tr.main.file⟩
def xd : List XD := [xd0]
abbrev R : PySem.W.OpenRow := PySem.W.OpenLaw.row PySem.Challenge.rw_markedregions_k71_whole_best_sizes_by_tr
def names : List PySem.Str := (List.map PySem.Str.ofString ["__name__", "is_integer", "is_between", "is_row", "RegionsError", "BadNumber", "MOST", "MOST_TRIED", "check_number", "check_store", "check_written", "touched", "length_of", "copied", "raised", "least_touched", "most_touched", "least_copied", "most_copied", "packed", "spread", "price", "best_sizes", "_law_pool", "_law_take", "_law_price", "_law_caught", "_law_refused"])
theorem runA0 (w : World) : RunA R (PySem.W.view R.prog [31]) 14000 names (w.withFollow "special-get-raises" false) := by
  intro os
  kernel_rfl
theorem runBa0 (w : World) : RunBa R (tx.fa.take 21) 14000 (w.withFollow "special-get-raises" false) := by
  intro os
  kernel_rfl
theorem runBb0 (w : World) : RunBa R (tx.fa.drop 21) 14000 (w.withFollow "special-get-raises" false) := by
  intro os
  kernel_rfl
theorem runBc0 (w : World) : RunBf R (fn.take 12) 14000 (w.withFollow "special-get-raises" false) := by
  intro os
  kernel_rfl
theorem runBd0 (w : World) : RunBf R (fn.drop 12) 14000 (w.withFollow "special-get-raises" false) := by
  intro os
  kernel_rfl
theorem runBx0 (w : World) : RunBx R tx.fa fn xd 14000 (w.withFollow "special-get-raises" false) := by
  intro os
  kernel_rfl
theorem runBz0 (w : World) : RunZ R lams 14000 (w.withFollow "special-get-raises" false) := by
  intro os
  kernel_rfl
theorem runA1 (w : World) : RunA R (PySem.W.view R.prog [31]) 14000 names (w.withFollow "special-get-raises" true) := by
  intro os
  kernel_rfl
theorem runBa1 (w : World) : RunBa R (tx.fa.take 21) 14000 (w.withFollow "special-get-raises" true) := by
  intro os
  kernel_rfl
theorem runBb1 (w : World) : RunBa R (tx.fa.drop 21) 14000 (w.withFollow "special-get-raises" true) := by
  intro os
  kernel_rfl
theorem runBc1 (w : World) : RunBf R (fn.take 12) 14000 (w.withFollow "special-get-raises" true) := by
  intro os
  kernel_rfl
theorem runBd1 (w : World) : RunBf R (fn.drop 12) 14000 (w.withFollow "special-get-raises" true) := by
  intro os
  kernel_rfl
theorem runBx1 (w : World) : RunBx R tx.fa fn xd 14000 (w.withFollow "special-get-raises" true) := by
  intro os
  kernel_rfl
theorem runBz1 (w : World) : RunZ R lams 14000 (w.withFollow "special-get-raises" true) := by
  intro os
  kernel_rfl
end Zk71.H
--??   | .nil, [], env => some env
--??   | .v i r, t :: ts, env => if i < env.length then stP r ts 
--??   | .it i ks r, t :: ts, env => (match evK G C ks env, env[i
namespace Ev
open PySem L2

mutual
def W.fz : W → T
  | .val t => t
  | .lst ws => .lst (fzs ws)
  | .nd n ws => .nd n (fzs ws)
  | .set ts => .set ts
def fzs : List W → List T
  | [] => []
  | w :: r => w.fz :: fzs r
end
inductive F where
  | nx | rt (w : W) | bk | ct
mutual
def T.pd : T → Option PyData
  | .non => some .none
  | .bl b => some (.bool b)
  | .int i => some (.int i)
  | .str x => some (.str x)
  | .tup xs => (pds xs).map .tuple
  | .sol xs => (pds xs).map .tuple
  | .lst xs => (pds xs).map .list
  | .ty _ => none
  | .gl _ => none
  | .nd _ _ => none
  | .set _ => none
  | .scr _ => none
  | .dn _ => none
def pds : List T → Option (List PyData)
  | [] => some []
  | t :: r => match t.pd, pds r with
    | some d, some ds => some (d :: ds)
    | _, _ => none
end
def eqT (a b : T) : Option Bool := match a.pd, b.pd with
  | some x, some y => if SeqAt.shaped x && SeqAt.shaped y then some (PyData.eqv x y) else none
  | _, _ => none
def keyT : T → Option Key
  | .int i => some (.inl i)
  | .str x => some (.inr x)
  | _ => none
def tKey : Key → T
  | .inl i => .int i
  | .inr x => .str x
def getN {κ α : Type} [DecidableEq κ] : List κ → List α → κ → Option α
  | k :: ks, x :: xs, j => if k = j then some x else getN ks xs j
  | _, _, _ => none
def putN {κ : Type} [DecidableEq κ] : List κ → κ → List κ
  | [], j => [j]
  | k :: ks, j => if k = j then k :: ks else k :: putN ks j
def putV {κ α : Type} [DecidableEq κ] : List κ → List α → κ → α → List α
  | k :: ks, x :: xs, j, v => if k = j then v :: xs else x :: putV ks xs j v
  | _, _, _, v => [v]
def inT (a : T) (xs : List T) : Option Bool := match a.pd, pds xs with
  | some d, some ds => if SeqAt.shaped d && (SeqAt.shaped (.list ds) && decide (d.depth ≤ 60)) then some (ds.any fun z => PyData.eqv z d) else none
  | _, _ => none
def inAny (a b : T) : Option Bool := match b with
  | .lst xs => inT a xs
  | .tup xs => inT a xs
  | .sol xs => inT a xs
  | .nd n _ => n.keys.bind fun ks => (keyT a).map fun k => ks.any fun j => decide (j = k)
  | _ => none
def mulOk (i j : Int) : Bool := (decide (-18446744073709551616 < i) && decide (i < 18446744073709551616)) || (decide (-18446744073709551616 < j) && decide (j < 18446744073709551616))
def opInt : Operator → Int → Int → Option Int
  | .Add, i, j => some (i + j)
  | .Sub, i, j => some (i - j)
  | .Mult, i, j => if mulOk i j then some (i * j) else none
  | .FloorDiv, i, j => if decide (0 < j) && decide (j < 1073741824) then some (i / j) else none
  | .Mod, i, j => if decide (0 < j) then some (i % j) else none
  | .Pow, i, j => if decide (0 ≤ j) && decide (j ≤ 1000000) && decide (i.natAbs < 18446744073709551616) then some (i ^ j.toNat) else none
  | _, _, _ => none
def repT (xs : List T) (k : Int) : Option W := if decide (-8388608 ≤ k) && (decide (k ≤ 8388608) && decide (xs.length * k.toNat ≤ 16777216)) then some (.lst ((List.replicate k.toNat xs).flatten.map .val)) else none
def opT (o : Operator) (a b : T) : Option W := match a, b with
  | .int i, .int j => (opInt o i j).map fun k => .val (.int k)
  | .lst xs, .int k => (match o with
    | .Mult => repT xs k
    | _ => none)
  | .lst xs, .lst ys => (match o with
    | .Add => if decide (xs.length + ys.length ≤ 16777216) then some (.lst ((xs ++ ys).map .val)) else none
    | _ => none)
  | _, _ => none
def cmpInt : CmpOp → Int → Int → Option Bool
  | .Lt, i, j => some (decide (i < j))
  | .LtE, i, j => some (decide (i ≤ j))
  | .Gt, i, j => some (decide (j < i))
  | .GtE, i, j => some (decide (j ≤ i))
  | _, _, _ => none
def cmpI2 (o : CmpOp) : T → T → Option Bool
  | .int i, .int j => cmpInt o i j
  | _, _ => none
def T.isSol : T → Bool
  | .sol _ => true
  | _ => false
def T.isN : T → Bool
  | .non => true
  | _ => false
def cmpB2 : T → T → Option Bool
  | .bl a, .bl b => some (decide (a = b))
  | _, _ => none
def cmpT (o : CmpOp) (a b : T) : Option Bool := match o with
  | .Eq => eqT a b
  | .NotEq => (eqT a b).map (!·)
  | .Is => if b.isN then some a.isN else cmpB2 a b
  | .IsNot => if b.isN then some (!a.isN) else (cmpB2 a b).map (!·)
  | .In => inAny a b
  | .NotIn => (inAny a b).map (!·)
  | o => cmpI2 o a b
def T.tru : T → Option Bool
  | .non => some false
  | .bl b => some b
  | .int i => some (i != 0)
  | .lst xs => some (!xs.isEmpty)
  | .tup xs => some (!xs.isEmpty)
  | _ => none
def T.ints : List T → Option (List Int)
  | [] => some []
  | .int i :: r => (T.ints r).map (i :: ·)
  | _ :: _ => none
def T.bls : List T → Option (List Bool)
  | [] => some []
  | .bl b :: r => (T.bls r).map (b :: ·)
  | _ :: _ => none
def insI (i : Int) : List Int → List Int
  | [] => [i]
  | j :: r => if i ≤ j then i :: j :: r else j :: insI i r
def sortI : List Int → List Int
  | [] => []
  | i :: r => insI i (sortI r)
def maxI : Int → List Int → Int
  | m, [] => m
  | m, i :: r => maxI (if m < i then i else m) r
def minI : Int → List Int → Int
  | m, [] => m
  | m, i :: r => minI (if i < m then i else m) r
def sumI : List Int → Int
  | [] => 0
  | i :: r => i + sumI r
def addI (acc : List Int) (i : Int) : List Int := if acc.contains i then acc else acc ++ [i]
def dedI (acc : List Int) : List Int → List Int
  | [] => acc
  | i :: r => dedI (addI acc i) r
def lenT : List T → Option W
  | [.lst xs] => some (.val (.int xs.length))
  | [.tup xs] => some (.val (.int xs.length))
  | [.sol xs] => some (.val (.int xs.length))
  | [.scr is] => some (.val (.int is.length))
  | [.str x] => if decide (x.length ≤ 16777216) then some (.val (.int x.length)) else none
  | _ => none
def listT : List T → Option W
  | [.lst xs] => some (.lst (xs.map .val))
  | [.tup xs] => some (.lst (xs.map .val))
  | [.nd n _] => n.keys.bind fun ks => if decide (ks.length ≤ 16777216) then some (.lst (ks.map fun k => .val (tKey k))) else none
  | _ => none
def tupleT : List T → Option W
  | [.lst xs] => some (.val (.tup xs))
  | [.tup xs] => some (.val (.tup xs))
  | _ => none
def T.strs : List T → Option (List Str)
  | [] => some []
  | .str x :: r => (T.strs r).map (x :: ·)
  | _ :: _ => none
def leS (a b : Str) : Bool := !PySem.Spec.ltCps b.cps.toList a.cps.toList
def insS (x : Str) : List Str → List Str
  | [] => [x]
  | y :: r => if leS x y then x :: y :: r else y :: insS x r
def sortS : List Str → List Str
  | [] => []
  | x :: r => insS x (sortS r)
def sortL (xs : List T) : Option W := match T.ints xs with
  | some is => some (.lst ((sortI is).map fun i => .val (.int i)))
  | none => (T.strs xs).map fun ss => .lst ((sortS ss).map fun x => .val (.str x))
def sortedT : List T → Option W
  | [.lst xs] => sortL xs
  | [.tup xs] => sortL xs
  | _ => none
inductive Pt where
  | i (n : Int) | s (x : Str)
  deriving DecidableEq
def ptT : T → Option Pt
  | .int n => some (.i n)
  | .str x => some (.s x)
  | _ => none
def ptsT : List T → Option (List Pt)
  | [] => some []
  | t :: r => (ptT t).bind fun p => (ptsT r).map (p :: ·)
def rowsT : List T → Option (List (List Pt))
  | [] => some []
  | .tup ts :: r => (ptsT ts).bind fun p => (rowsT r).map (p :: ·)
  | _ :: _ => none
def ltP : Pt → Pt → Bool
  | .i n, .i m => decide (n < m)
  | .s x, .s y => !leS y x
  | .i _, .s _ => true
  | .s _, .i _ => false
def Pt.like : Pt → Pt → Bool
  | .i _, .i _ => true
  | .s _, .s _ => true
  | _, _ => false
def ltR : List Pt → List Pt → Bool
  | [], [] => false
  | [], _ :: _ => true
  | _ :: _, [] => false
  | a :: r, b :: q => if a = b then ltR r q else ltP a b
def likeR : List Pt → List Pt → Bool
  | a :: r, b :: q => if a = b then likeR r q else a.like b
  | _, _ => true
def insR (a : List Pt) : List (List Pt) → List (List Pt)
  | [] => [a]
  | b :: r => if ltR b a then b :: insR a r else a :: b :: r
def sortR : List (List Pt) → List (List Pt)
  | [] => []
  | a :: r => insR a (sortR r)
def Pt.txt : List Pt → Bool
  | .s _ :: _ => true
  | _ => false
def okRs (rs : List (List Pt)) : Bool := rs.all fun a => Pt.txt a && rs.all fun b => likeR a b
def tPt : Pt → T
  | .i n => .int n
  | .s x => .str x
def srtRT : T → Option W
  | .lst ts => (rowsT ts).bind fun rs => if okRs rs && decide (rs.length ≤ 16777216) then some (.lst ((sortR rs).map fun q => .val (.tup (q.map tPt)))) else none
  | _ => none
def addS (acc : List Str) (x : Str) : List Str := if acc.any fun y => decide (y = x) then acc else acc ++ [x]
def T.prs : List T → Option (List Key × List T)
  | [] => some ([], [])
  | .tup [k, v] :: r => (keyT k).bind fun j => (T.prs r).map fun p => (j :: p.1, v :: p.2)
  | _ :: _ => none
def mergeD : List Key → List T → List Key → List T → List Key × List T
  | ks, ts, j :: js, v :: vs => mergeD (putN ks j) (putV ks ts j v) js vs
  | ks, ts, _, _ => (ks, ts)
def mergeW : List Key → List W → List Key → List T → List Key × List W
  | ks, ws, j :: js, v :: vs => mergeW (putN ks j) (putV ks ws j (.val v)) js vs
  | ks, ws, _, _ => (ks, ws)
def vls : List W → Option (List T)
  | [] => some []
  | .val t :: r => (vls r).map (t :: ·)
  | _ :: _ => none
def putP : List T → W → W → Option W
  | [k], .lst ws, v => (match k with
    | .int j => (L2.ixN ws.length j).map fun n => .lst (ws.set n v)
    | _ => none)
  | [k], .nd (.dct ks) ws, v => if decide (ks.length < 1000) then (keyT k).map fun j => .nd (.dct (putN ks j)) (putV ks ws j v) else none
  | k :: l :: r, .lst ws, v => (match k with
    | .int j => (L2.ixN ws.length j).bind fun n => (ws[n]?).bind fun u => (putP (l :: r) u v).map fun u' => .lst (ws.set n u')
    | _ => none)
  | k :: l :: r, .nd (.dct ks) ws, v => (keyT k).bind fun j => (getN ks ws j).bind fun u => (putP (l :: r) u v).map fun u' => .nd (.dct ks) (putV ks ws j u')
  | _, _, _ => none
def dgetT : T → T → T → Option T
  | .nd n ts, k, d => n.keys.bind fun ks => (keyT k).map fun j => (getN ks ts j).getD d
  | _, _, _ => none
def lixL (d : PyData) : List PyData → Option Nat
  | [] => none
  | z :: r => if PyData.eqv z d then some 0 else (lixL d r).map (· + 1)
def lixT : T → T → Option T
  | .lst ts, b => (match b.pd, pds ts with
    | some d, some ds => if SeqAt.shaped d && SeqAt.shaped (.list ds) then (lixL d ds).map fun n => .int n else none
    | _, _ => none)
  | _, _ => none
def T.isLst : T → Bool
  | .lst _ => true
  | _ => false
def neET (a b : T) : Option Bool := match cmpT .NotEq a b with
  | some k => some k
  | none => (match a, b with
    | .lst [.str x, .nd (.dct []) []], .lst [.str y, .nd (.dct []) []] => some (!decide (x = y))
    | .lst [.str x, .nd (.dct [.inl k]) [.int i]], .lst [.str y, .nd (.dct [.inl l]) [.int j]] => if decide (k = l) && decide (i = j) then some (!decide (x = y)) else none
    | _, _ => none)
def stupT : T → Option T
  | .lst ts => if decide (ts.length ≤ 16777216) = true then some (.sol ts) else none
  | _ => none
def unsolT : T → T
  | .sol ts => .tup ts
  | t => t
def tstT (us : List T) : T → Option T
  | .tup ts => if decide (us.length + ts.length ≤ 1000) then some (.tup (us ++ ts)) else none
  | _ => none
def dictT : List T → Option W
  | [.nd n ts] => n.keys.map fun ks => .nd (.dct ks) (ts.map .val)
  | [.lst xs] => (T.prs xs).map fun p => .nd (.dct (mergeD [] [] p.1 p.2).1) ((mergeD [] [] p.1 p.2).2.map .val)
  | _ => none
def minT : List T → Option W
  | [.int i, .int j] => some (.val (.int (if j < i then j else i)))
  | [.lst xs] => (T.ints xs).bind fun is => match is with
    | i :: r => some (.val (.int (minI i r)))
    | [] => none
  | _ => none
def maxT : List T → Option W
  | [.int i, .int j] => some (.val (.int (if j > i then j else i)))
  | [.lst xs] => (T.ints xs).bind fun is => match is with
    | i :: r => some (.val (.int (maxI i r)))
    | [] => none
  | _ => none
def intT : List T → Option W
  | [.int i] => some (.val (.int i))
  | [.bl b] => some (.val (.int (if b then 1 else 0)))
  | _ => none
def T.lsts : List T → Option (List (List T))
  | [] => some []
  | .lst ts :: r => (T.lsts r).map (ts :: ·)
  | _ => none
def sumT : List T → Option W
  | [.lst xs] => (T.ints xs).map fun is => .val (.int (sumI is))
  | [.lst xs, .lst []] => (T.lsts xs).bind fun ls => if decide (1 ≤ ls.length) && decide (ls.flatten.length ≤ 16777216) then some (.lst (ls.flatten.map .val)) else none
  | _ => none
def allT : List T → Option W
  | [.lst xs] => (T.bls xs).map fun bs => .val (.bl (bs.all id))
  | _ => none
def anyT : List T → Option W
  | [.lst xs] => (T.bls xs).map fun bs => .val (.bl (bs.any id))
  | _ => none
def shwT (t : T) : Option Str := t.pd.bind fun d => if d.showable && (!d.hasDict && (decide (d.depth ≤ 60) && decide (d.shown.length ≤ 16777216))) then some d.shown else none
def T.isE0 : T → Bool
  | .nd (.dct []) [] => true
  | _ => false
def reprT : List T → Option W
  | [t] => if t.isE0 then some (.val (.str (PyData.dict []).shown)) else (shwT t).map fun x => .val (.str x)
  | _ => none
def biT : Bi → List T → Option W
  | .len => lenT
  | .list => listT
  | .tuple => tupleT
  | .sorted => sortedT
  | .min => minT
  | .max => maxT
  | .int => intT
  | .sum => sumT
  | .all => allT
  | .any => anyT
  | .dict => dictT
  | .repr => reprT
def ixT (a i : T) : Option T := match a, i with
  | .lst xs, .int i => atI xs i
  | .tup xs, .int i => atI xs i
  | .sol xs, .int i => atI xs i
  | .scr is, .int i => (atI is i).map .int
  | .nd n ts, k => n.keys.bind fun ks => (keyT k).bind (getN ks ts)
  | _, _ => none
def tyT : T → Option Ty
  | .int _ => some .int
  | .bl _ => some .bool
  | .str _ => some .str
  | .non => some .non
  | .lst _ => some .list
  | .tup _ => some .tuple
  | .sol _ => some .tuple
  | .nd n _ => if n.keys.isSome then some .dict else none
  | _ => none
def Ty.sub : Ty → Ty → Bool
  | .bool, .int => true
  | a, b => decide (a = b)
def isiT (cs : List Ty) (t : T) : Option Bool := (tyT t).map fun y => cs.any y.sub
def cutT (xs : List T) (lo hi : Option Int) : List T := (xs.drop (HT.sIx xs.length 0 lo)).take (HT.sIx xs.length xs.length hi - HT.sIx xs.length 0 lo)
def slT (a : T) (lo hi : Option Int) : Option W := match a with
  | .lst xs => some (.lst ((cutT xs lo hi).map .val))
  | _ => none

def taddT : T → T → Option T
  | .tup xs, .tup ys => if decide (xs.length + ys.length ≤ 16777216) then some (.tup (xs ++ ys)) else none
  | _, _ => none
def taddsT : T → T → Option T
  | .sol xs, .tup ys => if decide (xs.length + ys.length ≤ 16777216) && !xs.isEmpty then (match ys with
    | [] => some (.sol xs)
    | _ :: _ => some (.sol (xs ++ ys))) else none
  | .tup xs, .tup ys => if decide (xs.length + ys.length ≤ 16777216) then (match xs, ys with
    | [], ys => some (.tup ys)
    | _ :: _, [] => none
    | x :: xs, y :: ys => some (.sol (x :: xs ++ y :: ys))) else none
  | _, _ => none
def tmulT : T → T → Option T
  | .tup xs, .int k => if !xs.isEmpty && (decide (1 ≤ k) && (decide (k ≤ 1000) && decide (xs.length ≤ 1000))) then some (.tup (List.replicate k.toNat xs).flatten) else if !xs.isEmpty && (decide (k = 0) && decide (xs.length ≤ 1000)) then some (.tup []) else none
  | _, _ => none
def tslT (lo hi : Option Int) : T → Option T
  | .tup xs => some (.tup (cutT xs lo hi))
  | .sol xs => some (.tup (cutT xs lo hi))
  | _ => none
def sslT (lo hi : Option Int) : T → Option T
  | .str x => if decide (x.length ≤ 16777216) then some (.str ⟨((x.cps.toList.drop (HT.sIx x.length 0 lo)).take (HT.sIx x.length x.length hi - HT.sIx x.length 0 lo)).toArray⟩) else none
  | _ => none
def idxS (z : Str) : List Str → Option Nat
  | [] => none
  | x :: r => if x = z then some 0 else (idxS z r).map (· + 1)
def tixT : T → T → Option T
  | .sol ts, .str z => (T.strs ts).bind fun ss => (idxS z ss).map fun n => .int n
  | _, _ => none
def cntS (z : Str) : List Str → Nat
  | [] => 0
  | x :: r => (if x = z then 1 else 0) + cntS z r
def tcntT : T → T → Option T
  | .sol ts, .str z => (T.strs ts).map fun ss => .int (cntS z ss)
  | _, _ => none
def anytT : T → Option T
  | .tup ts => (T.bls ts).map fun bs => .bl (bs.any id)
  | _ => none
def strKs : List Key → Option (List Str)
  | [] => some []
  | .inr x :: r => (strKs r).map (x :: ·)
  | .inl _ :: _ => none
def srtDT : T → Option W
  | .nd n _ => (n.keys.bind strKs).bind fun ss => if decide (ss.length < 64) then some (.lst ((sortS ss).map fun x => .val (.str x))) else none
  | _ => none
def str1T : T → Option W
  | .str x => some (.val (.str x))
  | _ => none
def dedS (acc : List Str) : List Str → List Str
  | [] => acc
  | x :: r => dedS (addS acc x) r
def srtUT : T → Option W
  | .lst ts => (T.strs ts).bind fun ss => if decide (ss.length < 4095) then some (.lst ((sortS (dedS [] ss)).map fun x => .val (.str x))) else none
  | _ => none
def intST : T → Option W
  | .str x => if decide (x.length ≤ 640) then (PySem.intText? x).map fun n => .val (.int n) else none
  | _ => none
def strIT : T → Option W
  | .int i => if decide (i.natAbs.log2 < 1920) then some (.val (.str (toString i))) else none
  | _ => none
def sixT : T → T → Option T
  | .str x, .int i => if decide (x.length ≤ 16777216) then (L2.atI x.cps.toList i).map fun c => .str ⟨#[c]⟩ else none
  | _, _ => none
def lenXT : T → Option W
  | .lst ts => (T.strs ts).bind fun ss => if decide (ss.length < 4095) then some (.val (.int (dedS [] ss).length)) else none
  | _ => none
def saddT : T → T → Option W
  | .str x, .str y => if decide (x.length + y.length ≤ 16777216) then some (.val (.str (x ++ y))) else none
  | _, _ => none
def fstT (p q : Str) : T → Option W
  | .str x => if decide (p.length + x.length + q.length ≤ 16777216) then some (.val (.str (p ++ x ++ q))) else none
  | _ => none
def splT (b : Str) : T → Option W
  | .str x => if decide (b.length ≠ 0) && decide (x.length + 2 ≤ 16777216) then some (.lst ((Txt.split x b).map fun y => .val (.str y))) else none
  | _ => none
def smulT : T → T → Option W
  | .str x, .int n => if decide (2 ≤ n) && (decide (n ≤ 10000) && (decide (1 ≤ x.length) && decide (x.length ≤ 100))) then some (.val (.str ⟨(List.replicate n.toNat x.cps).foldl (· ++ ·) #[]⟩)) else none
  | _, _ => none
def ixpT (a b : T) : Option T := match a with
  | .str _ => sixT a b
  | _ => ixT a b
def partT (b : Str) : T → Option T
  | .str x => if decide (b.length ≠ 0) && decide (x.length ≤ 16777216) then some (.tup [.str (Txt.partition x b).1, .str (Txt.partition x b).2.1, .str (Txt.partition x b).2.2]) else none
  | _ => none
def sinT : T → T → Option T
  | .str x, .str y => some (.bl (!(PySem.Builtin.Str.occurrences y x 0 y.length 1).isEmpty))
  | _, _ => none
def fpT : T → Option Str
  | .str x => if decide (x.length ≤ 16777216) then some x else none
  | .int i => if decide (i.natAbs.log2 < 1920) then some (toString i) else none
  | _ => none
def joinT (z : Str) : T → Option W
  | .lst ts => (T.strs ts).bind fun ss => if decide ((ss.map (·.length)).sum + ss.length * z.length ≤ 16777216) then some (.val (.str (Txt.join z ss))) else none
  | .tup ts => (T.strs ts).bind fun ss => if decide ((ss.map (·.length)).sum + ss.length * z.length ≤ 16777216) then some (.val (.str (Txt.join z ss))) else none
  | _ => none
mutual
def T.pure : T → Bool
  | .tup ts => purs ts
  | .non => true
  | .bl _ => true
  | .int _ => true
  | .str _ => true
  | _ => false
def purs : List T → Bool
  | [] => true
  | t :: r => t.pure && purs r
end
mutual
def W.pure : W → Bool
  | .val t => t.pure
  | .lst ws => purW ws
  | .nd _ ws => purW ws
  | .set _ => true
def purW : List W → Bool
  | [] => true
  | w :: r => w.pure && purW r
end
def lendE (env : Env) : Env := env.map (Option.map fun w => .val w.fz)
def arr (ts us : List T) : List Ar → Option (List T)
  | [] => some []
  | .p i :: r => (ts[i]?).bind fun t => (arr ts us r).map (t :: ·)
  | .k i :: r => (us[i]?).bind fun t => (arr ts us r).map (t :: ·)
  | .d _ t :: r => (arr ts us r).map (t :: ·)
def isKw : List Str → List Key → Bool
  | [], [] => true
  | x :: r, k :: ks => decide (k = .inr x) && isKw r ks
  | _, _ => false
def hitsT (ks' : List Key) (ts' : List T) : List Key → List T → Option Bool
  | k :: ks, t :: ts => (match getN ks' ts' k with
    | none => some false
    | some u => (eqT t u).bind fun e => (hitsT ks' ts' ks ts).map (e && ·))
  | _, _ => some true
def deqT : T → T → Option Bool
  | .nd n ts, .nd n' ts' => n.keys.bind fun ks => n'.keys.bind fun ks' => if ks.length = ks'.length then hitsT ks' ts' ks ts else some false
  | _, _ => none
def isIns (c m : Str) : T → Bool
  | .nd (.ins c' fs) _ => decide (c' = c) && !fs.contains m
  | _ => false
def isOf (c : Str) : T → Bool
  | .nd (.ins c' _) _ => decide (c' = c)
  | _ => false
def fldT (c f : Str) : T → Option T
  | .nd (.ins c' fs) ts => if c' = c then getN fs ts f else none
  | _ => none
def iscT (c : Str) (cs : List Str) : T → Option Bool
  | .nd (.ins c' _) _ => if cs.contains c' then some (decide (c' = c)) else none
  | .scr _ => none
  | .set _ => none
  | .ty _ => none
  | .gl _ => none
  | .sol _ => none
  | .dn _ => none
  | _ => some false
def isinT (cs : List Str) (y : Ty) (t : T) : Option Bool := match t with
  | .nd (.ins c _) _ => if cs.contains c then some false else none
  | t => isiT [y] t
def isidT (cs : List Ty) (t : T) : Option Bool := match t with
  | .dn _ => some (cs.any Ty.dict.sub)
  | t => isiT cs t
def itemsT : T → Option W
  | .nd (.dct ks) ts => some (.lst ((ks.zip ts).map fun p => .val (.tup [tKey p.1, p.2])))
  | _ => none

mutual
def nkT : T → Option NestedKey
  | .non => some .none
  | .bl b => some (.num (if b then 1 else 0))
  | .int i => some (.num i)
  | .str x => some (.text x)
  | .tup ts => (nksT ts).map .tup
  | .sol ts => (nksT ts).map .tup
  | _ => none
def nksT : List T → Option (List NestedKey)
  | [] => some []
  | t :: r => (nkT t).bind fun k => (nksT r).map (k :: ·)
end
def T.isTup : T → Bool
  | .tup _ => true
  | _ => false
def keyN (t : T) : Option NestedKey := if t.isTup then (nkT t).bind fun k => if decide (k.depth ≤ 8) then some k else none else none
def dkL : List NestedKey → List T → List T → Option (List T)
  | _, ts, [] => some ts
  | ks, ts, t :: r => (keyN t).bind fun k => if ks.any fun j => j.beq k then dkL ks ts r else dkL (ks ++ [k]) (ts ++ [t]) r
def dnT (ts : List T) : Option W := if decide (ts.length < 16777216) then (dkL [] [] ts).map fun us => .val (.dn us) else none
def inD (a d : T) : Option Bool := match d with
  | .dn ts => (keyN a).bind fun k => (nksT ts).map fun ks => ks.any fun j => j.beq k
  | _ => none
def hideE (env : Env) : Env := env.map fun o => match o with
  | some (.val t) => some (.val t)
  | _ => none
def capE (m : Bool) (ds : List T) (is : List Nat) (env : Env) : Env := ds.map (fun t => some (.val t)) ++ is.map fun i => ((if m then lendE env else hideE env)[i]?).getD none

def wipeE (env : Env) : List Nat → Env
  | [] => env
  | i :: r => (wipeE env r).set i none
def hidOk (env : Env) (own : List Nat) : Bool := own.all fun i => match env[i]? with
  | some (some (.val _)) => true
  | some none => true
  | _ => false
def backE (old env : Env) : List Nat → Env
  | [] => env
  | i :: r => (backE old env r).set i ((old[i]?).getD none)
def tgE : Tg → T → Env → Option Env
  | .var i, t, env => if i < env.length then some (env.set i (some (.val t))) else none
  | .tup is, .tup ts, env => if is.length = ts.length then some ((is.zip ts).foldl (fun e p => e.set p.1 (some (.val p.2))) env) else none
  | .tup _, _, _ => none
  | .lst is, .lst ts, env => if is.length = ts.length then some ((is.zip ts).foldl (fun e p => e.set p.1 (some (.val p.2))) env) else none
  | .lst _, _, _ => none
def tgIn : Tg → List Nat → Bool
  | .var i, own => own.contains i
  | .tup is, own => is.all own.contains
  | .lst is, own => is.all own.contains
def lcL (tg : Tg) (own : List Nat) (test : Env → R Bool) (elt : Env → R W) : List T → List W → Env → R (List W)
  | [], acc, env => .ok acc env
  | t :: r, acc, env => match tgE tg t env with
    | none => .no
    | some env1 => (test env1).bind fun b env2 => match b with
      | true => (elt env2).bind fun w env3 => if decide (acc.length < 16777216) && hidOk env3 own then lcL tg own test elt r (acc ++ [w]) (wipeE env3 own) else .no
      | false => if hidOk env2 own then lcL tg own test elt r acc (wipeE env2 own) else .no
def scL (tg : Tg) (own : List Nat) (test : Env → R Bool) (elt : Env → R W) : List T → List Int → Env → R (List Int)
  | [], acc, env => .ok acc env
  | t :: r, acc, env => match tgE tg t env with
    | none => .no
    | some env1 => (test env1).bind fun b env2 => match b with
      | true => (elt env2).bind fun w env3 => match w.fz with
        | .int k => if decide (acc.length < 4095) && hidOk env3 own then scL tg own test elt r (addI acc k) (wipeE env3 own) else .no
        | _ => .no
      | false => if hidOk env2 own then scL tg own test elt r acc (wipeE env2 own) else .no
def forL (tg : Tg) (body : Env → R F) : List T → Env → R F
  | [], env => .ok .nx env
  | t :: r, env => match tgE tg t env with
    | none => .no
    | some env1 => (body env1).bind fun f env2 => match f with
      | .nx => forL tg body r env2
      | .ct => forL tg body r env2
      | .bk => .ok .nx env2
      | .rt w => .ok (.rt w) env2
def lc2L (tg : Tg) (own : List Nat) (inner : List W → Env → R (List W)) : List T → List W → Env → R (List W)
  | [], acc, env => .ok acc env
  | t :: r, acc, env => match tgE tg t env with
    | none => .no
    | some env1 => (inner acc env1).bind fun acc2 env2 => if hidOk env2 own then lc2L tg own inner r acc2 (wipeE env2 own) else .no
def sxL (tg : Tg) (own : List Nat) (test : Env → R Bool) (elt : Env → R W) : List T → List Str → Env → R (List Str)
  | [], acc, env => .ok acc env
  | t :: r, acc, env => match tgE tg t env with
    | none => .no
    | some env1 => (test env1).bind fun b env2 => match b with
      | true => (elt env2).bind fun w env3 => match w.fz with
        | .str k => if decide (acc.length < 4095) && hidOk env3 own then sxL tg own test elt r (addS acc k) (wipeE env3 own) else .no
        | _ => .no
      | false => if hidOk env2 own then sxL tg own test elt r acc (wipeE env2 own) else .no
def whlL (test : Env → R Bool) (body : Env → R F) : Nat → Env → R F
  | 0, _ => .no
  | n + 1, env => (test env).bind fun b env1 => match b with
    | false => .ok .nx env1
    | true => (body env1).bind fun f env2 => match f with
      | .nx => whlL test body n env2
      | .ct => whlL test body n env2
      | .bk => .ok .nx env2
      | .rt w => .ok (.rt w) env2
def rngI (a : Int) : Nat → List Int
  | 0 => []
  | n + 1 => a :: rngI (a + 1) n
def okR (n : Int) : Bool := decide (-8388608 ≤ n) && decide (n ≤ 8388608)
def rngT : T → Option Int → Option (List Int)
  | .int n, none => if okR n then some (rngI 0 n.toNat) else none
  | .int m, some n => if okR m && okR n then some (rngI m (n - m).toNat) else none
  | _, _ => none
def stepI (a c : Int) : Nat → List Int
  | 0 => []
  | n + 1 => a :: stepI (a + c) c n
def rng3T : T → T → T → Option (List Int)
  | .int a, .int b, .int c => if okR a && okR b && decide (0 < c) && decide (c ≤ 16777216) then some (stepI a c ((b - a + c - 1) / c).toNat) else none
  | _, _, _ => none
def revT : T → Option W
  | .lst xs => some (.lst (xs.reverse.map .val))
  | _ => none
def outE (env : Env) (is : List Nat) : List (Option W) := is.map fun i => (env[i]?).getD none
def backO : List Nat → List (Option W) → Env → Env
  | i :: is, o :: os, env => backO is os (env.set i o)
  | _, _, env => env


def callR (slots : List Nat) (r : CR) (env : Env) : R W := match r with
  | .ok w outs => .ok w (backO slots outs env)
  | .exc c t outs => .exc c t (backO slots outs env)
  | .no => .no
def newR (r : CR) (env : Env) : R W := match r with
  | .ok (.val .non) [some w] => .ok w env
  | .exc c t _ => .exc c t env
  | _ => .no
def kdct : T → Option (List Key × List T)
  | .nd n ts => n.keys.map fun ks => (ks, ts)
  | _ => none
def xvT (rp : Bool) (t : T) : Option W := match rp with
  | true => reprT [t]
  | false => some (.val t)
def lhW : LH → T → Option W
  | .one rp, t => xvT rp t
  | .row pre rp post, t => (xvT rp t).map fun w => .lst (pre.map .val ++ w :: post.map fun b => .val (.bl b))
section
variable (G : Nat → Option T) (C : Calls)
mutual
def evE : E → Env → R W
  | .int i, env => .ok (.val (.int i)) env
  | .bl b, env => .ok (.val (.bl b)) env
  | .non, env => .ok (.val .non) env
  | .str x, env => .ok (.val (.str x)) env
  | .cst g, env => R.of ((G g).map .val) env
  | .rd i, env => (match env[i]? with
    | some (some w) => .ok (.val w.fz) (env.set i (some (.val w.fz)))
    | _ => .no)
  | .rdx i e, env => (match env[i]? with
    | some (some _) => (evE e env).bind fun k env1 => (match env1[i]? with
      | some (some (.val a)) => R.of ((ixT a k.fz).map .val) env1
      | some (some (.lst ws)) => (match k.fz with
        | .int j => (match atI ws j with
          | some (.val t) => .ok (.val t) env1
          | _ => .no)
        | _ => .no)
      | some (some (.nd (.dct ks) ws)) => (match (keyT k.fz).bind (getN ks ws) with
        | some (.val t) => .ok (.val t) env1
        | _ => .no)
      | _ => .no)
    | _ => .no)
  | .op o a b, env => (evE a env).bind fun x env1 => (evE b env1).bind fun y env2 => R.of (opT o x.fz y.fz) env2
  | .neg a, env => (evE a env).bind fun x env1 => (match x.fz with
    | .int i => .ok (.val (.int (-i))) env1
    | _ => .no)
  | .cmp o a b, env => (evE a env).bind fun x env1 => (evE b env1).bind fun y env2 => R.of ((cmpT o x.fz y.fz).map fun b => .val (.bl b)) env2
  | .chn o o' a b c, env => (evE a env).bind fun x env1 => (evE b env1).bind fun y env2 => (match cmpT o x.fz y.fz with
    | some true => (evE c env2).bind fun z env3 => R.of ((cmpT o' y.fz z.fz).map fun b => .val (.bl b)) env3
    | some false => .ok (.val (.bl false)) env2
    | none => .no)
  | .one a, env => evE a env
  | .and a b, env => (evE a env).bind fun x env1 => (match x.fz with
    | .bl true => evE b env1
    | .bl false => .ok (.val (.bl false)) env1
    | _ => .no)
  | .or a b, env => (evE a env).bind fun x env1 => (match x.fz with
    | .bl true => .ok (.val (.bl true)) env1
    | .bl false => evE b env1
    | _ => .no)
  | .not a, env => (evE a env).bind fun x env1 => (match x.fz with
    | .bl b => .ok (.val (.bl (!b))) env1
    | _ => .no)
  | .ife c a b, env => (evT c env).bind fun k env1 => (match k with
    | true => evE a env1
    | false => evE b env1)
  | .tup es, env => (evEs es env).bind fun ws env1 => if decide (ws.length ≤ 16777216) then .ok (.val (.tup (fzs ws))) env1 else .no
  | .lst es, env => (evEs es env).bind fun ws env1 => if decide (ws.length ≤ 16777216) then .ok (.lst ws) env1 else .no
  | .ix a i, env => (evE a env).bind fun x env1 => (evE i env1).bind fun y env2 => R.of ((ixT x.fz y.fz).map .val) env2
  | .sl a lo hi, env => (evE a env).bind fun x env1 => (evO lo env1).bind fun l env2 => (evO hi env2).bind fun h env3 => R.of (slT x.fz l h) env3
  | .bi b es, env => (evEs es env).bind fun ws env1 => R.of (biT b (fzs ws)) env1
  | .isi a c, env => (evE a env).bind fun x env1 => R.of ((isiT [c] x.fz).map fun b => .val (.bl b)) env1
  | .isis a cs, env => (evE a env).bind fun x env1 => R.of ((isiT cs x.fz).map fun b => .val (.bl b)) env1
  | .call f as ds, env => (evA as env).bind fun ws env1 => (match C f (ws.1 ++ ds.map .val) with
    | .ok w outs => .ok w (backO ws.2 outs env1)
    | .exc c t outs => .exc c t (backO ws.2 outs env1)
    | .no => .no)
  | .callk f as ks, env => (evA as env).bind fun ws env1 => (evA ks env1).bind fun us env2 => (match C f (ws.1 ++ us.1) with
    | .ok w outs => .ok w (backO ws.2 outs env2)
    | .exc c t outs => .exc c t (backO ws.2 outs env2)
    | .no => .no)
  | .lc own tg it cs e, env => (evI it env).bind fun ts env1 => if hidOk env1 own && tgIn tg own then (match lcL tg own (evTs cs) (evE e) ts [] (wipeE env1 own) with
    | .ok ws env2 => .ok (.lst ws) (backE env1 env2 own)
    | _ => .no) else .no
  | .lcx own tg it e, env => (evI it env).bind fun ts env1 => if hidOk env1 own && tgIn tg own then (match lcL tg own (fun env => .ok true env) (evE e) ts [] (wipeE env1 own) with
    | .ok ws env2 => .ok (.lst ws) (backE env1 env2 own)
    | .exc c t env2 => if hidOk env2 own then .exc c t (backE env1 env2 own) else .no
    | .no => .no) else .no
  | .lenS z, env => (evSe z env).bind fun is env1 => .ok (.val (.int is.length)) env1
  | .srtS z, env => (evSe z env).bind fun is env1 => if decide (is.length < 64) then .ok (.lst ((sortI is).map fun i => .val (.int i))) env1 else .no
  | .lrng3 a b c, env => (evE a env).bind fun x env1 => (evE b env1).bind fun y env2 => (evE c env2).bind fun z env3 => R.of ((rng3T x.fz y.fz z.fz).map fun is => .lst (is.map fun i => .val (.int i))) env3
  | .rev a, env => (evE a env).bind fun x env1 => R.of (revT x.fz) env1
  | .alt a b, env => (match evE a env with
    | .no => evE b env
    | r => r)
  | .fld c f a, env => (evE a env).bind fun w env1 => R.of ((fldT c f w.fz).map .val) env1
  | .fldv c f i, env => (match env[i]? with
    | some (some (.val t)) => R.of ((fldT c f t).map .val) env
    | some (some (.nd (.ins c' fs) ws)) => if c' = c then (match getN fs ws f with
      | some (.val t) => .ok (.val t) env
      | _ => .no) else .no
    | _ => .no)
  | .meth c m f a as ds, env => (evE a env).bind fun w env1 => if isIns c m w.fz then (evA as env1).bind fun ws env2 => callR ws.2 (C f (.val w.fz :: (ws.1 ++ ds.map .val))) env2 else .no
  | .methv c m f i as ds, env => (match env[i]? with
    | some (some w0) => if isIns c m w0.fz then (evA as env).bind fun ws env2 => (match env2[i]? with
      | some (some w) => callR (i :: ws.2) (C f (w :: (ws.1 ++ ds.map .val))) (env2.set i none)
      | _ => .no) else .no
    | _ => .no)
  | .prop c f a, env => (evE a env).bind fun w env1 => if isOf c w.fz then (match C f [.val w.fz] with
    | .ok w' _ => .ok w' env1
    | _ => .no) else .no
  | .new c f es ks ar, env => (evEs es env).bind fun ws env1 => (evEs ks env1).bind fun us env2 => (match arr (fzs ws) (fzs us) ar with
    | some ts => newR (C f (.nd (.ins c []) [] :: ts.map .val)) env2
    | none => .no)
  | .newst c f e, env => (evE e env).bind fun w env1 => (match w.fz with
    | .tup ts => if decide (ts.length ≤ 16777216) then newR (C f [.nd (.ins c []) [], .val (.tup ts)]) env1 else .no
    | .lst ts => if decide (ts.length ≤ 16777216) then newR (C f [.nd (.ins c []) [], .val (.tup ts)]) env1 else .no
    | _ => .no)
  | .newdd c f es e ks ar, env => (evEs es env).bind fun ws env1 => (evE e env1).bind fun w env2 => (match kdct w.fz with
    | some (js, us) => if isKw ks js then (match arr (fzs ws) us ar with
      | some ts => newR (C f (.nd (.ins c []) [] :: ts.map .val)) env2
      | none => .no) else .no
    | none => .no)
  | .deq a b, env => (evE a env).bind fun x env1 => (evE b env1).bind fun y env2 => R.of ((deqT x.fz y.fz).map fun k => .val (.bl k)) env2
  | .callw f es ks ar, env => (evEs es env).bind fun ws env1 => (evEs ks env1).bind fun us env2 => (match arr (fzs ws) (fzs us) ar with
    | some ts => callR [] (C f (ts.map .val)) env2
    | none => .no)
  | .own c f a b, env => (evE a env).bind fun x env1 => (evE b env1).bind fun y env2 => if isOf c x.fz then callR [] (C f [.val x.fz, .val y.fz]) env2 else .no
  | .ownE c cs f a b, env => (evE a env).bind fun x env1 => (evE b env1).bind fun y env2 => if isOf c x.fz && (iscT c cs y.fz).isSome then callR [] (C f [.val x.fz, .val y.fz]) env2 else .no
  | .ownB c f a b, env => (evE a env).bind fun x env1 => (evE b env1).bind fun y env2 => if isOf c x.fz && isOf c y.fz then callR [] (C f [.val x.fz, .val y.fz]) env2 else .no
  | .ownN c f a b, env => (evE a env).bind fun x env1 => (evE b env1).bind fun y env2 => if isOf c x.fz && isOf c y.fz then (callR [] (C f [.val x.fz, .val y.fz]) env2).bind fun w env3 => (match w.fz with
    | .bl k => .ok (.val (.bl (!k))) env3
    | _ => .no) else .no
  | .ownI c f a b, env => (evE a env).bind fun x env1 => (evE b env1).bind fun y env2 => if isOf c y.fz then (callR [] (C f [.val y.fz, .val x.fz]) env2).bind fun w env3 => (match w.fz with
    | .bl k => .ok (.val (.bl k)) env3
    | _ => .no) else .no
  | .isc c cs a, env => (evE a env).bind fun w env1 => R.of ((iscT c cs w.fz).map fun k => .val (.bl k)) env1
  | .isin cs y a, env => (evE a env).bind fun w env1 => R.of ((isinT cs y w.fz).map fun k => .val (.bl k)) env1
  | .isid a cs, env => (evE a env).bind fun w env1 => R.of ((isidT cs w.fz).map fun k => .val (.bl k)) env1
  | .dct ks es, env => (evEs es env).bind fun ws env1 => if decide (ks.length = ws.length) && decide (ks.length ≤ 15) then .ok (.nd (.dct ks) ws) env1 else .no
  | .items a, env => (evE a env).bind fun w env1 => R.of (itemsT w.fz) env1
  | .kin n a, env => (evE a env).bind fun w env1 => (match (G n).bind kdct, w.fz with
    | some (ks, _), .str x => .ok (.val (.bl (ks.any fun j => decide (j = .inr x)))) env1
    | _, _ => .no)
  | .knin n a, env => (evE a env).bind fun w env1 => (match (G n).bind kdct, w.fz with
    | some (ks, _), .str x => .ok (.val (.bl (!ks.any fun j => decide (j = .inr x)))) env1
    | _, _ => .no)
  | .kget n a, env => (evE a env).bind fun w env1 => (match (G n).bind kdct, w.fz with
    | some (ks, ts), .str x => R.of ((getN ks ts (.inr x)).map .val) env1
    | _, _ => .no)
  | .klist n, env => (match (G n).bind kdct with
    | some (ks, _) => .ok (.lst (ks.map fun k => .val (tKey k))) env
    | none => .no)
  | .lc2 own own2 tg it tg2 it2 e, env => (evI it env).bind fun ts env1 => if hidOk env1 own && (tgIn tg own && (tgIn tg2 own2 && own2.all own.contains)) then
      (match lc2L tg own (fun acc env2 => (evI it2 env2).bind fun us env3 => if hidOk env3 own2 then lcL tg2 own2 (fun e => .ok true e) (evE e) us acc (wipeE env3 own2) else .no) ts [] (wipeE env1 own) with
      | .ok ws env2 => .ok (.lst ws) (backE env1 env2 own)
      | _ => .no) else .no
  | .srtX own tg it cs e, env => (evI it env).bind fun ts env1 => if hidOk env1 own && tgIn tg own then (match sxL tg own (evTs cs) (evE e) ts [] (wipeE env1 own) with
    | .ok ss env2 => .ok (.lst ((sortS ss).map fun x => .val (.str x))) (backE env1 env2 own)
    | _ => .no) else .no
  | .tups es, env => (evEs es env).bind fun ws env1 => if decide (ws.length ≤ 16777216) then .ok (.val (.sol (fzs ws))) env1 else .no
  | .tadds a b, env => (evE a env).bind fun x env1 => (evE b env1).bind fun y env2 => R.of ((taddsT x.fz y.fz).map .val) env2
  | .tadd a b, env => (evE a env).bind fun x env1 => (evE b env1).bind fun y env2 => R.of ((taddT x.fz y.fz).map .val) env2
  | .tmul a b, env => (evE a env).bind fun x env1 => (evE b env1).bind fun y env2 => R.of ((tmulT x.fz y.fz).map .val) env2
  | .tsl a lo hi, env => (evE a env).bind fun x env1 => (evO lo env1).bind fun l env2 => (evO hi env2).bind fun h env3 => R.of ((tslT l h x.fz).map .val) env3
  | .ssl a lo hi, env => (evE a env).bind fun x env1 => (evO lo env1).bind fun l env2 => (evO hi env2).bind fun h env3 => R.of ((sslT l h x.fz).map .val) env3
  | .frz a, env => (evE a env).bind fun x env1 => .ok (.val x.fz) env1
  | .tix a b, env => (evE a env).bind fun x env1 => if x.fz.isSol then (evE b env1).bind fun y env2 => R.of ((tixT x.fz y.fz).map .val) env2 else .no
  | .tcnt a b, env => (evE a env).bind fun x env1 => if x.fz.isSol then (evE b env1).bind fun y env2 => R.of ((tcntT x.fz y.fz).map .val) env2 else .no
  | .anyt a, env => (evE a env).bind fun x env1 => R.of ((anytT x.fz).map .val) env1
  | .propv c f i, env => (match env[i]? with
    | some (some w) => if isOf c w.fz then (match C f [w] with
      | .ok w' outs => .ok w' (backO [i] outs (env.set i none))
      | _ => .no) else .no
    | _ => .no)
  | .methkw c m f a ks es, env => (evE a env).bind fun w env1 => if isIns c m w.fz then (evEs es env1).bind fun ws env2 => (if decide (ks.length = ws.length) then callR [] (C f [.val w.fz, .val (.nd (.dct (ks.map .inr)) (fzs ws))]) env2 else .no) else .no
  | .srtR a, env => (evE a env).bind fun x env1 => R.of (srtRT x.fz) env1
  | .popv i e, env => (match env[i]? with
    | some (some (.lst _)) => (evE e env).bind fun k env1 => (match env1[i]?, k.fz with
      | some (some (.lst ws)), .int j => (match L2.ixN ws.length j with
        | some n => (match ws[n]? with
          | some w => if decide (ws.length ≤ 16777216) then .ok w (env1.set i (some (.lst (ws.eraseIdx n)))) else .no
          | none => .no)
        | none => .no)
      | _, _ => .no)
    | _ => .no)
  | .lenv i, env => (match env[i]? with
    | some (some w) => R.of (lenT [w.fz]) env
    | _ => .no)
  | .cmpv o i b, env => (match env[i]? with
    | some (some _) => (evE b env).bind fun y env1 => (match env1[i]? with
      | some (some w) => R.of ((cmpT o w.fz y.fz).map fun k => .val (.bl k)) env1
      | _ => .no)
    | _ => .no)
  | .srtD a, env => (evE a env).bind fun x env1 => R.of (srtDT x.fz) env1
  | .listv i, env => (match env[i]? with
    | some (some (.lst ws)) => if decide (ws.length ≤ 16777216) then .ok (.lst ((fzs ws).map .val)) (env.set i (some (.lst ((fzs ws).map .val)))) else .no
    | _ => .no)
  | .lend a, env => (match evE a (lendE env) with
    | .ok w _ => if w.pure then .ok w env else .no
    | _ => .no)
  | .str1 a, env => (evE a env).bind fun x env1 => R.of (str1T x.fz) env1
  | .intS a, env => (evE a env).bind fun x env1 => R.of (intST x.fz) env1
  | .strI a, env => (evE a env).bind fun x env1 => R.of (strIT x.fz) env1
  | .six a b, env => (evE a env).bind fun x env1 => (evE b env1).bind fun y env2 => R.of ((sixT x.fz y.fz).map .val) env2
  | .srtU a, env => (evE a env).bind fun x env1 => R.of (srtUT x.fz) env1
  | .lenX a, env => (evE a env).bind fun x env1 => R.of (lenXT x.fz) env1
  | .sadd a b, env => (evE a env).bind fun x env1 => (evE b env1).bind fun y env2 => R.of (saddT x.fz y.fz) env2
  | .fst_ p a q, env => (evE a env).bind fun x env1 => R.of (fstT p q x.fz) env1
  | .join z a, env => (evE a env).bind fun x env1 => R.of (joinT z x.fz) env1
  | .ownA c f a b, env => (evE a env).bind fun x env1 => (evE b env1).bind fun y env2 => if isOf c x.fz && (tyT y.fz).any Ty.row then callR [] (C f [.val x.fz, .val y.fz]) env2 else .no
  | .ownR c f a, env => (evE a env).bind fun x env1 => if isOf c x.fz then (match C f [.val x.fz] with
    | .ok w _ => (match w.fz with
      | .str z => .ok (.val (.str z)) env1
      | _ => .no)
    | _ => .no) else .no
  | .ownL c f a, env => (evE a env).bind fun x env1 => if isOf c x.fz then (match C f [.val x.fz] with
    | .ok w _ => (match w.fz with
      | .int n => if decide (0 ≤ n) && decide (n ≤ 1000) then .ok (.val (.int n)) env1 else .no
      | _ => .no)
    | _ => .no) else .no
  | .newN c f es, env => (evEs es env).bind fun ws env1 => newR (C f [.nd (.ins c []) [], .val (.tup (fzs ws))]) env1
  | .lrng a b, env => (evE a env).bind fun x env1 => (evO b env1).bind fun y env2 => R.of ((rngT x.fz y).map fun is => .lst (is.map fun i => .val (.int i))) env2
  | .dget a k d, env => (evE a env).bind fun x env1 => if (kdct x.fz).isSome then (evE k env1).bind fun y env2 => (evE d env2).bind fun z env3 => R.of ((dgetT x.fz y.fz z.fz).map .val) env3 else .no
  | .lix a b, env => (evE a env).bind fun x env1 => if x.fz.isLst then (evE b env1).bind fun y env2 => R.of ((lixT x.fz y.fz).map .val) env2 else .no
  | .utup a, env => (evE a env).bind fun w env1 => .ok (.val (unsolT w.fz)) env1
  | .stup a, env => (evE a env).bind fun w env1 => R.of ((stupT w.fz).map .val) env1
  | .neE a b, env => (evE a env).bind fun x env1 => (evE b env1).bind fun y env2 => R.of ((neET x.fz y.fz).map fun k => .val (.bl k)) env2
  | .tst es a, env => (evEs es env).bind fun ws env1 => (evE a env1).bind fun x env2 => R.of ((tstT (fzs ws) x.fz).map .val) env2
  | .smul a b, env => (evE a env).bind fun x env1 => (evE b env1).bind fun y env2 => R.of (smulT x.fz y.fz) env2
  | .ixp a b, env => (evE a env).bind fun x env1 => (evE b env1).bind fun y env2 => R.of ((ixpT x.fz y.fz).map .val) env2
  | .spl b a, env => (evE a env).bind fun x env1 => R.of (splT b x.fz) env1
  | .part b a, env => (evE a env).bind fun x env1 => R.of ((partT b x.fz).map .val) env1
  | .fstr es, env => evF es Str.empty env
  | .dcn a, env => (evE a env).bind fun w env1 => (match w.fz with
    | .lst ts => R.of (dnT ts) env1
    | .tup ts => R.of (dnT ts) env1
    | _ => .no)
  | .ind a b, env => (evE a env).bind fun x env1 => (evE b env1).bind fun y env2 => R.of ((inD x.fz y.fz).map fun k => .val (.bl k)) env2
  | .nind a b, env => (evE a env).bind fun x env1 => (evE b env1).bind fun y env2 => R.of ((inD x.fz y.fz).map fun k => .val (.bl (!k))) env2
  | .lamA m hs ds is e, env => (match evE e (capE m ds is env) with
    | .ok _ _ => .ok (.val .non) env
    | .exc c t _ => (match (hs.find? fun p => p.1.contains c).bind fun p => lhW p.2 t with
      | some w => if !m || w.pure then .ok w env else .no
      | none => .no)
    | .no => .no)
  | .sin a b, env => (evE a env).bind fun x env1 => (evE b env1).bind fun y env2 => R.of ((sinT x.fz y.fz).map .val) env2
  | .methr c m f a as ds, env => (evE a env).bind fun w env1 => if isIns c m w.fz then (evA as env1).bind fun ws env2 => (match C f (.val w.fz :: (ws.1 ++ ds.map .val)) with
    | .ok w outs => .ok w (backO ws.2 outs.tail env2)
    | _ => .no) else .no
  | .methf c m f c2 fl i as ds, env => (match env[i]? with
    | some (some (.nd (.ins c' fs) ws0)) => if c' = c2 then (match getN fs ws0 fl with
      | some w1 => if isIns c m w1.fz then (evA as (env.set i none)).bind fun ws env2 => (match C f (w1 :: (ws.1 ++ ds.map .val)) with
        | .ok w (some w4 :: outs) => .ok w (backO ws.2 outs (env2.set i (some (.nd (.ins c' fs) (putV fs ws0 fl w4)))))
        | .exc c t (some w4 :: outs) => .exc c t (backO ws.2 outs (env2.set i (some (.nd (.ins c' fs) (putV fs ws0 fl w4)))))
        | _ => .no) else .no
      | none => .no) else .no
    | _ => .no)
def evSe : Se → Env → R (List Int)
  | .sc own tg it cs e, env => (evI it env).bind fun ts env1 => if hidOk env1 own && tgIn tg own then (match scL tg own (evTs cs) (evE e) ts [] (wipeE env1 own) with
    | .ok is env2 => .ok is (backE env1 env2 own)
    | _ => .no) else .no
  | .of e, env => (evE e env).bind fun w env1 => (match w.fz with
    | .lst ts => (match T.ints ts with
      | some is => if decide (is.length < 4095) then .ok (dedI [] is) env1 else .no
      | none => .no)
    | _ => .no)
def evEs : Es → Env → R (List W)
  | .nil, env => .ok [] env
  | .cons e es, env => (evE e env).bind fun w env1 => (evEs es env1).bind fun ws env2 => .ok (w :: ws) env2
def evF : Es → Str → Env → R W
  | .nil, acc, env => .ok (.val (.str acc)) env
  | .cons e es, acc, env => (evE e env).bind fun w env1 => (match fpT w.fz with
    | some x => if decide ((acc ++ x).length ≤ 16777216) then evF es (acc ++ x) env1 else .no
    | none => .no)
def evO : Eo → Env → R (Option Int)
  | .no, env => .ok none env
  | .so e, env => (evE e env).bind fun w env1 => (match w.fz with
    | .int i => .ok (some i) env1
    | _ => .no)
def evT : Tt → Env → R Bool
  | .v e, env => (evE e env).bind fun w env1 => R.of w.fz.tru env1
  | .one a, env => evT a env
  | .and a b, env => (evT a env).bind fun k env1 => (match k with
    | true => evT b env1
    | false => .ok false env1)
  | .or a b, env => (evT a env).bind fun k env1 => (match k with
    | true => .ok true env1
    | false => evT b env1)
  | .not a, env => (evT a env).bind fun k env1 => .ok (!k) env1
def evTs : Tts → Env → R Bool
  | .nil, env => .ok true env
  | .cons c cs, env => (evT c env).bind fun k env1 => (match k with
    | true => evTs cs env1
    | false => .ok false env1)
def evI : It → Env → R (List T)
  | .e e, env => (evE e env).bind fun w env1 => (match w.fz with
    | .lst ts => .ok ts env1
    | .tup ts => .ok ts env1
    | _ => .no)
  | .rng a b, env => (evE a env).bind fun x env1 => (evO b env1).bind fun y env2 => R.of ((rngT x.fz y).map fun is => is.map .int) env2
  | .keys e, env => (evE e env).bind fun w env1 => (match w with
    | .nd (.dct ks) _ => .ok (ks.map tKey) env1
    | .val (.nd (.dcl ks) _) => .ok (ks.map tKey) env1
    | _ => .no)
  | .keysv i, env => (match env[i]? with
    | some (some (.nd (.dct ks) ws)) => .ok (ks.map tKey) (env.set i (some (.val (.nd (.dcl ks) (fzs ws)))))
    | some (some (.val (.nd (.dcl ks) _))) => .ok (ks.map tKey) env
    | _ => .no)
  | .kk n, env => (match (G n).bind kdct with
    | some (ks, _) => .ok (ks.map tKey) env
    | none => .no)
  | .dnk e, env => (evE e env).bind fun w env1 => (match w.fz with
    | .dn ts => .ok ts env1
    | _ => .no)
  | .chars e, env => (evE e env).bind fun w env1 => (match w.fz with
    | .str x => .ok (x.cps.toList.map fun c => .str ⟨#[c]⟩) env1
    | _ => .no)
  | .enum e, env => (evE e env).bind fun w env1 => (match w.fz with
    | .lst ts => .ok ((ts.zipIdx).map fun p => .tup [.int p.2, p.1]) env1
    | .tup ts => .ok ((ts.zipIdx).map fun p => .tup [.int p.2, p.1]) env1
    | _ => .no)
  | .zip a b, env => (evE a env).bind fun x env1 => (evE b env1).bind fun y env2 => (match x.fz, y.fz with
    | .tup ts, .tup us => .ok ((ts.zip us).map fun p => .tup [p.1, p.2]) env2
    | .lst ts, .lst us => .ok ((ts.zip us).map fun p => .tup [p.1, p.2]) env2
    | _, _ => .no)
def evA : As → Env → R (List W × List Nat)
  | .nil, env => .ok ([], []) env
  | .cons e as, env => (evE e env).bind fun w env1 => (evA as env1).bind fun r env2 => .ok (.val w.fz :: r.1, r.2) env2
  | .io i as, env => (match env[i]? with
    | some (some w) => (evA as (env.set i none)).bind fun r env2 => .ok (w :: r.1, i :: r.2) env2
    | _ => .no)
  | .own e as, env => (evE e env).bind fun w env1 => (evA as env1).bind fun r env2 => if decide (env1.length ≤ 1000000) then .ok (w :: r.1, 1000000 :: r.2) env2 else .no
  | .iol i as, env => (match env[i]? with
    | some (some _) => (evA as env).bind fun r env1 => (match env1[i]? with
      | some (some w) => .ok (w :: r.1, i :: r.2) (env1.set i none)
      | _ => .no)
    | _ => .no)
end
def evPo : List Po → Env → R (List W)
  | [], env => .ok [] env
  | .e a :: r, env => (evE G C a env).bind fun w env1 => (evPo r env1).bind fun ws env2 => .ok (w :: ws) env2
  | .is b :: r, env => (evPo r env).bind fun ws env1 => .ok (.val (.bl b) :: ws) env1
def evH : Hs → T → Env → R F
  | .retE a, _, env => (evE G C a env).bind fun w env1 => .ok (.rt w) env1
  | .one rp, t, env => (R.of (xvT rp t) env).bind fun w env1 => .ok (.rt w) env1
  | .ret pre rp post, t, env => (R.of (xvT rp t) env).bind fun w env1 => (evPo G C post env1).bind fun ws env2 => .ok (.rt (.lst (pre.map .val ++ w :: ws))) env2
  | .asg j pre rp post, t, env => (R.of (xvT rp t) env).bind fun w env1 => (evPo G C post env1).bind fun ws env2 => .ok .nx (env2.set j (some (.lst (pre.map .val ++ w :: ws))))
  | .eqr rp a, t, env => (R.of (xvT rp t) env).bind fun w env1 => (evE G C a env1).bind fun y env2 => (R.of (cmpT .Eq w.fz y.fz) env2).bind fun k env3 => .ok (.rt (.val (.bl k))) env3
  | .ifne rp a, t, env => (R.of (xvT rp t) env).bind fun w env1 => (evE G C a env1).bind fun y env2 => (R.of (cmpT .NotEq w.fz y.fz) env2).bind fun k env3 => if k = true then .ok (.rt (.val (.bl false))) env3 else .ok .nx env3
  | .rto c f pre, t, env => if isOf c t = true then (match C f [.val t] with
    | .ok w _ => (match w.fz with
      | .str z => .ok (.rt (.lst (pre.map .val ++ [.val (.str z)]))) env
      | _ => .no)
    | _ => .no) else (R.of (xvT true t) env).bind fun w env1 => .ok (.rt (.lst (pre.map .val ++ [w]))) env1
def evK : List E → Env → Option (List T)
  | [], _ => some []
  | k :: r, env => (match evE G C k (lendE env) with
    | .ok (.val t) _ => (evK r env).map (t :: ·)
    | _ => none)
def stP : Plc → List T → Env → Option Env
  | .nil, [], env => some env
  | .v i r, t :: ts, env => if i < env.length then stP r ts (env.set i (some (.val t))) else none
  | .it i ks r, t :: ts, env => (match evK G C ks env, env[i]? with
    | some us, some (some w0) => (putP us w0 (.val t)).bind fun w1 => stP r ts (env.set i (some w1))
    | _, _ => none)
  | _, _, _ => none
mutual
def evS : S → Env → R F
  | .asgP ps e, env => (evE G C e env).bind fun w env1 => (match w with
    | .val (.tup ts) => (match stP G C ps ts env1 with
      | some env2 => .ok .nx env2
      | none => .no)
    | _ => .no)
  | .forv tg i b, env => (match env[i]? with
    | some (some (.lst ws)) => (match forL tg (evSs b) (fzs ws) (env.set i none) with
      | .ok .nx env1 => .ok .nx (env1.set i (some (.lst ((fzs ws).map .val))))
      | .ok (.rt w) env1 => .ok (.rt w) env1
      | .exc c t env1 => .exc c t env1
      | _ => .no)
    | _ => .no)
  | .tryn b, env => (match evSs b env with
    | .exc _ _ _ => .no
    | r => r)
  | .try0 b cs a, env => (match evSs b env with
    | .exc c t env1 => if cs.contains c then (match evE G C a env1 with
      | .ok w env2 => .ok (.rt w) env2
      | _ => .no) else .exc c t env1
    | r => r)
  | .trym i b hs, env => (match evSs b env with
    | .exc c t env1 => (match hs.find? fun p => p.1.contains c with
      | some p => (match evH G C p.2 t (env1.set i none) with
        | .ok .nx env2 => .ok .nx (env2.set i none)
        | .ok (.rt w) env2 => .ok (.rt w) env2
        | _ => .no)
      | none => .exc c t env1)
    | r => r)
  | .asg i e, env => (evE G C e env).bind fun w env1 => .ok .nx (env1.set i (some w))
  | .asgT is e, env => (evE G C e env).bind fun w env1 => (match tgE (.tup is) w.fz env1 with
    | some env2 => .ok .nx env2
    | none => .no)
  | .par is es, env => (evEs G C es env).bind fun ws env1 => if is.length = ws.length then .ok .nx ((is.zip ws).foldl (fun e p => e.set p.1 (some p.2)) env1) else .no
  | .setx i k e, env => (evE G C e env).bind fun w env1 => (match env1[i]? with
    | some (some (.nd (.dct _) _)) => (evE G C k env1).bind fun y env2 => (match env2[i]?, keyT y.fz with
      | some (some (.nd (.dct ks) ws)), some j => if decide (ks.length < 16777216) then .ok .nx (env2.set i (some (.nd (.dct (putN ks j)) (putV ks ws j w)))) else .no
      | _, _ => .no)
    | some (some (.lst _)) => (evE G C k env1).bind fun y env2 => (match env2[i]? with
      | some (some (.lst ws)) => (match y.fz with
        | .int j => (match L2.ixN ws.length j with
          | some n => .ok .nx (env2.set i (some (.lst (ws.set n w))))
          | none => .no)
        | _ => .no)
      | _ => .no)
    | _ => .no)
  | .app i e, env => (match env[i]? with
    | some (some (.lst _)) => (evE G C e env).bind fun w env1 => (match env1[i]? with
      | some (some (.lst ws)) => if decide (ws.length < 16777216) then .ok .nx (env1.set i (some (.lst (ws ++ [w])))) else .no
      | _ => .no)
    | _ => .no)
  | .expr e, env => (evE G C e env).bind fun _ env1 => .ok .nx env1
  | .ret e, env => (evE G C e env).bind fun w env1 => .ok (.rt w) env1
  | .retv i, env => (match env[i]? with
    | some (some w) => .ok (.rt w) (env.set i none)
    | _ => .no)
  | .retn, env => .ok (.rt (.val .non)) env
  | .ife c a b, env => (evT G C c env).bind fun k env1 => (match k with
    | true => evSs a env1
    | false => evSs b env1)
  | .for_ tg it b, env => (evI G C it env).bind fun ts env1 => forL tg (evSs b) ts env1
  | .whl n c b, env => whlL (evT G C c) (evSs b) n env
  | .setf c f i e, env => (evE G C e env).bind fun w env1 => (match env1[i]? with
    | some (some (.nd (.ins c' fs) ws)) => if decide (c' = c) && decide (fs.length < 1000) then .ok .nx (env1.set i (some (.nd (.ins c (putN fs f)) (putV fs ws f w)))) else .no
    | _ => .no)
  | .appx i k e, env => (match env[i]? with
    | some (some (.lst _)) => (evE G C k env).bind fun j env1 => (match env1[i]?, j.fz with
      | some (some (.lst ws)), .int j => (match L2.ixN ws.length j with
        | some n => (match ws[n]? with
          | some (.lst us) => (evE G C e (env1.set i none)).bind fun w env2 => if decide (us.length < 16777216) then .ok .nx (env2.set i (some (.lst (ws.set n (.lst (us ++ [w])))))) else .no
          | _ => .no)
        | none => .no)
      | _, _ => .no)
    | _ => .no)
  | .clrt e, env => (evE G C e env).bind fun w env1 => (match w with
    | .lst _ => .ok .nx env1
    | _ => .no)
  | .ext i e, env => (match env[i]? with
    | some (some (.lst _)) => (evE G C e env).bind fun w env1 => (match env1[i]?, w with
      | some (some (.lst ws)), .lst us => if decide (ws.length + us.length ≤ 16777216) then .ok .nx (env1.set i (some (.lst (ws ++ us)))) else .no
      | _, _ => .no)
    | _ => .no)
  | .clrx i k, env => (match env[i]? with
    | some (some (.lst _)) => (evE G C k env).bind fun j env1 => (match env1[i]?, j.fz with
      | some (some (.lst ws)), .int j => (match L2.ixN ws.length j with
        | some n => (match ws[n]? with
          | some (.lst _) => .ok .nx (env1.set i (some (.lst (ws.set n (.lst [])))))
          | _ => .no)
        | none => .no)
      | _, _ => .no)
    | _ => .no)
  | .appt e x, env => (evE G C e env).bind fun w env1 => (match w with
    | .lst ws => (evE G C x env1).bind fun _ env2 => if decide (ws.length < 16777216) then .ok .nx env2 else .no
    | _ => .no)
  | .updd i e, env => (match env[i]? with
    | some (some (.nd (.dct _) _)) => (evE G C e env).bind fun w env1 => (match env1[i]?, kdct w.fz with
      | some (some (.nd (.dct ks) ws)), some (js, ts) => (match vls ws with
        | some us => if decide (ks.length + js.length ≤ 16777216) then .ok .nx (env1.set i (some (.nd (.dct (mergeD ks us js ts).1) ((mergeD ks us js ts).2.map .val)))) else .no
        | none => .no)
      | _, _ => .no)
    | _ => .no)
  | .setp i ks e, env => (evE G C e env).bind fun w env1 => (match evK G C ks env1, env1[i]? with
    | some us, some (some w0) => (match putP us w0 w with
      | some w1 => .ok .nx (env1.set i (some w1))
      | none => .no)
    | _, _ => .no)
  | .rais c e, env => (evE G C e env).bind fun w env1 => .exc c w.fz env1
  | .tryf i b cs c j, env => (match evSs b env with
    | .exc k t env1 => if cs.contains k = true then (match evE G C (.rd j) (env1.set i none) with
      | .ok w env2 => .exc c w.fz (env2.set i none)
      | _ => .no) else .exc k t env1
    | r => r)
  | .tryx i b cs h, env => (match evSs b env with
    | .exc c t env1 => if cs.contains c then (match evH G C h t (env1.set i none) with
      | .ok .nx env2 => .ok .nx (env2.set i none)
      | .ok (.rt w) env2 => .ok (.rt w) env2
      | _ => .no) else .exc c t env1
    | r => r)
  | .pass, env => .ok .nx env
  | .never, _ => .no
def evSs : Ss → Env → R F
  | .nil, env => .ok .nx env
  | .cons s ss, env => (evS s env).bind fun f env1 => (match f with
    | .nx => evSs ss env1
    | f => .ok f env1)
end
end
def callN (G : Nat → Option T) (tab : Nat → Option FD) : Nat → Calls
  | 0, _, _ => .no
  | d + 1, f, ws => match tab f with
    | none => .no
    | some fd => if ws.length = fd.np then (match evSs G (callN G tab d) fd.body (ws.map some ++ List.replicate (fd.ns - fd.np) none) with
      | .ok .nx env => .ok (.val .non) (outE env fd.io)
      | .ok (.rt w) env => .ok w (outE env fd.io)
      | .ok _ _ => .no
      | .exc c t env => .exc c t (outE env fd.io)
      | .no => .no) else .no
end Ev
namespace Ev
open PySem L2
class WW where
  w : World
  lam : List Str := []
variable [WW]
def DN (a : Addr) (ob : Obj) (xs : List (NestedKey × Addr × Value)) (h : Heap) : Prop := h.get? a = some ob ∧ ∃ (P : Program) (h0 : Heap), h0.get? a = some ob ∧ h0.DictOfH (nestedKind P WW.w) a xs
theorem DN.ok {P : Program} {w : World} {H : Hp} {h : Heap} {a : Addr} {ob : Obj} {xs : List (NestedKey × Addr × Value)} (x : DN a ob xs h) : ObjOk P w H h a (.ext (DN a ob xs)) :=
  ⟨x, ⟨ob, x.1⟩, fun h1 h2 y k => ⟨k _ y.1, y.2⟩⟩
structure SetIs (S : Int → Bool) (n : Nat) (is : List Int) : Prop where
  mem : ∀ i, S i = true ↔ i ∈ is
  nd : is.Nodup
  len : n = is.length
def DctO (ks : List Key) (xs : List V) (o : HO) : Prop := ∃ kvs : List (Key × V), o = .dK kvs ∧ kvs.map (·.1) = ks ∧ kvs.map (·.2) = xs ∧ ks.Nodup
def KN (H : Hp) (b : Addr) (o : HO) : Prop := H b = some o ∧ ∀ ps, o ≠ .tbl ps
theorem KN.up {H H' : Hp} (x : ∀ b o, H b = some o → H' b = some o) {b : Addr} {o : HO} (h : KN H b o) : KN H' b o := ⟨x b o h.1, h.2⟩
theorem KN.ne {H : Hp} {b : Addr} {o : HO} (h : KN H b o) (e : H b = none) : False := by
  rw [h.1] at e
  cases e
theorem KN.put {H : Hp} {b a : Addr} {o u : HO} (ne : b ≠ a) (h : KN H b o) : KN (L2.upd H a u) b o := ⟨(upd_ne ne).trans h.1, h.2⟩
theorem KN.fresh {H : Hp} {b p : Addr} {o u : HO} (h : KN H b o) (hp : H p = none) : KN (L2.upd H p u) b o := ⟨(upd_ne (ne_of_none h.1 hp)).trans h.1, h.2⟩
def NdO (K : PySem.W.Frag) : Nd → List V → HO → Prop
  | .dct ks, xs, o => DctO ks xs o
  | .dcl ks, xs, o => DctO ks xs o
  | .ins c fs, xs, o => ∃ (dx : Addr) (kvs : List (Str × V)), o = .ins (He.ga K c) dx kvs ∧ kvs.map (·.1) = fs ∧ kvs.map (·.2) = xs
def AtN (H : Hp) (a : Addr) (o : HO) : Nd → Prop
  | .dct _ => H a = some o
  | .dcl _ => ∃ u, H a = some (.frz u o)
  | .ins _ _ => H a = some o
theorem AtN.of {H : Hp} {a : Addr} {o : HO} {n : Nd} (h : H a = some o) (f : n.free = true) : AtN H a o n := by
  cases n with
  | dct ks => exact h
  | dcl ks => cases f
  | ins c fs => exact h
theorem AtN.there {H : Hp} {a : Addr} {o : HO} {n : Nd} (h : AtN H a o n) : ∃ u, H a = some u := by
  cases n with
  | dct ks => exact ⟨_, h⟩
  | dcl ks => obtain ⟨u, h⟩ := h; exact ⟨_, h⟩
  | ins c fs => exact ⟨_, h⟩
theorem AtN.mono {H H' : Hp} {a : Addr} {o : HO} {n : Nd} (h : AtN H a o n) (nt : ∀ ps, o ≠ .tbl ps) (keep : ∀ u, KN H a u → KN H' a u) : AtN H' a o n := by
  cases n with
  | dct ks => exact (keep _ ⟨h, nt⟩).1
  | dcl ks => obtain ⟨u, h⟩ := h; exact ⟨u, (keep _ ⟨h, fun ps z => by cases z⟩).1⟩
  | ins c fs => exact (keep _ ⟨h, nt⟩).1
theorem AtN.rd {H : Hp} {a : Addr} {o : HO} {n : Nd} (h : AtN H a o n) : Rd H a o := by
  cases n with
  | dct ks => exact .inl h
  | dcl ks => exact .inr h
  | ins c fs => exact .inl h
theorem NdO.dct {K : PySem.W.Frag} {n : Nd} {xs : List V} {o : HO} {ks : List Key} (h : NdO K n xs o) (e : n.keys = some ks) : DctO ks xs o := by
  cases n with
  | dct js => cases e; exact h
  | dcl js => cases e; exact h
  | ins c fs => cases e
theorem NdO.notup {K : PySem.W.Frag} {n : Nd} {xs : List V} {o : HO} (h : NdO K n xs o) : ∀ ys, o ≠ .tup ys := by
  cases n with
  | dct ks => obtain ⟨kvs, rfl, _⟩ := h; exact fun ys z => by cases z
  | dcl ks => obtain ⟨kvs, rfl, _⟩ := h; exact fun ys z => by cases z
  | ins c fs => obtain ⟨dx, kvs, rfl, _⟩ := h; exact fun ys z => by cases z
theorem NdO.noext {K : PySem.W.Frag} {n : Nd} {xs : List V} {o : HO} (h : NdO K n xs o) : ∀ ys, o ≠ .ext ys := by
  cases n with
  | dct ks => obtain ⟨kvs, rfl, _⟩ := h; exact fun ys z => by cases z
  | dcl ks => obtain ⟨kvs, rfl, _⟩ := h; exact fun ys z => by cases z
  | ins c fs => obtain ⟨dx, kvs, rfl, _⟩ := h; exact fun ys z => by cases z
theorem NdO.notbl {K : PySem.W.Frag} {n : Nd} {xs : List V} {o : HO} (h : NdO K n xs o) : ∀ ys, o ≠ .tbl ys := by
  cases n with
  | dct ks => obtain ⟨kvs, rfl, _⟩ := h; exact fun ys z => by cases z
  | dcl ks => obtain ⟨kvs, rfl, _⟩ := h; exact fun ys z => by cases z
  | ins c fs => obtain ⟨dx, kvs, rfl, _⟩ := h; exact fun ys z => by cases z
theorem NdO.nofrz {K : PySem.W.Frag} {n : Nd} {xs : List V} {o : HO} (h : NdO K n xs o) : ∀ u ys, o ≠ .frz u ys := by
  cases n with
  | dct ks => obtain ⟨kvs, rfl, _⟩ := h; exact fun u ys z => by cases z
  | dcl ks => obtain ⟨kvs, rfl, _⟩ := h; exact fun u ys z => by cases z
  | ins c fs => obtain ⟨dx, kvs, rfl, _⟩ := h; exact fun u ys z => by cases z
section
variable (K : PySem.W.Frag) (H : Hp) (av : Addr → Prop)
mutual
def Fz : T → V → Prop
  | .non, v => v = .non
  | .bl b, v => v = .bl b
  | .int i, v => v = .int i
  | .str x, v => v = .str x
  | .ty n, v => v = .ty n
  | .gl _, _ => False
  | .tup ts, v => ∃ a xs, v = .ref a ∧ SqT K H a xs ∧ FzL ts xs
  | .sol ts, v => ∃ a xs o, v = .ref a ∧ H a = some (.frz o (.tup xs)) ∧ o.dict = none ∧ ¬ av a ∧ FzL ts xs
  | .lst ts, v => ∃ a xs, v = .ref a ∧ Rd H a (.lst xs) ∧ ¬ av a ∧ FzL ts xs
  | .set ts, v => ∃ a S n is, v = .ref a ∧ H a = some (.set S n) ∧ ¬ av a ∧ SetIs S n is ∧ ts = is.map T.int
  | .nd n ts, v => ∃ a xs o, v = .ref a ∧ AtN H a o n ∧ ¬ av a ∧ NdO K n xs o ∧ FzL ts xs
  | .dn ts, v => ∃ a ob xs, v = .ref a ∧ H a = some (.ext (DN a ob xs)) ∧ ¬ av a ∧ (a == sysModules) = false ∧ nksT ts = some (xs.map (·.1)) ∧ FzL ts (xs.map fun x => V.ref x.2.1)
  | .scr is, v => ∃ a, v = .ref a ∧ ((Rd H a (.lst (is.map V.int)) ∧ ¬ av a) ∨ SqL K (fun _ => none) a (is.map V.int))
def FzL : List T → List V → Prop
  | [], vs => vs = []
  | t :: ts, vs => ∃ v r, vs = v :: r ∧ Fz t v ∧ FzL ts r
end
mutual
def Own : W → V → List Addr → Prop
  | .val t, v, A => A = [] ∧ Fz K H av t v
  | .lst ws, v, A => ∃ a xs B, v = .ref a ∧ A = a :: B ∧ H a = some (.lst xs) ∧ OwnL ws xs B
  | .nd n ws, v, A => ∃ a xs o B, v = .ref a ∧ A = a :: B ∧ H a = some o ∧ (NdO K n xs o ∧ n.free = true) ∧ OwnL ws xs B
  | .set ts, v, A => ∃ a S n is, v = .ref a ∧ A = [a] ∧ H a = some (.set S n) ∧ SetIs S n is ∧ ts = is.map T.int
def OwnL : List W → List V → List Addr → Prop
  | [], vs, A => vs = [] ∧ A = []
  | w :: ws, vs, A => ∃ v r B D, vs = v :: r ∧ A = B ++ D ∧ Own w v B ∧ OwnL ws r D
end
end
def RE (K : PySem.W.Frag) (H : Hp) (av : Addr → Prop) : Env → St → List Addr → Prop
  | [], σ, A => σ = [] ∧ A = []
  | none :: env, σ, A => ∃ o r, σ = o :: r ∧ RE K H av env r A
  | some w :: env, σ, A => ∃ v r B D, σ = some v :: r ∧ A = B ++ D ∧ Own K H av w v B ∧ RE K H av env r D
def Av (A : List Addr) (Rt : Addr → Prop) : Addr → Prop := fun b => b ∈ A ∨ Rt b
structure Stp (A : List Addr) (H H' : Hp) : Prop where
  keep : ∀ b o, KN H b o → b ∉ A → KN H' b o
  tups : ∀ b xs, Rd H b (.tup xs) → Rd H' b (.tup xs)

section
variable {K : PySem.W.Frag} {H H' : Hp} {av av' : Addr → Prop}
theorem SqT.mono (tups : ∀ b xs, Rd H b (.tup xs) → Rd H' b (.tup xs)) {a : Addr} {xs : List V} (h : SqT K H a xs) : SqT K H' a xs := by
  rcases h with h | h
  · exact .inl (tups _ _ h)
  · exact .inr h
theorem Rd.mono {a : Addr} {u : HO} (h : Rd H a u) (keep : ∀ o, H a = some o → H' a = some o) : Rd H' a u := by
  rcases h with h | ⟨o, h⟩
  · exact .inl (keep _ h)
  · exact .inr ⟨o, keep _ h⟩
theorem Rd.monoK {a : Addr} {u : HO} (h : Rd H a u) (nt : ∀ ps, u ≠ .tbl ps) (keep : ∀ o, KN H a o → KN H' a o) : Rd H' a u := by
  rcases h with h | ⟨o, h⟩
  · exact .inl (keep _ ⟨h, nt⟩).1
  · exact .inr ⟨o, (keep _ ⟨h, fun ps z => by cases z⟩).1⟩
theorem Rd.there {a : Addr} {u : HO} (h : Rd H a u) : ∃ o, H a = some o := by
  rcases h with h | ⟨o, h⟩
  · exact ⟨_, h⟩
  · exact ⟨_, h⟩
mutual
theorem Fz.mono (keep : ∀ b o, KN H b o → ¬ av b → KN H' b o) (tups : ∀ b xs, Rd H b (.tup xs) → Rd H' b (.tup xs)) (hav : ∀ b, av' b → av b ∨ H b = none) :
    ∀ (t : T) (v : V), Fz K H av t v → Fz K H' av' t v
  | .non, _, h => h
  | .bl _, _, h => h
  | .int _, _, h => h
  | .str _, _, h => h
  | .ty _, _, h => h
  | .gl _, _, h => h
  | .tup ts, v, h => by
    obtain ⟨a, xs, e, hs, hl⟩ := h
    exact ⟨a, xs, e, SqT.mono tups hs, FzL.mono keep tups hav ts xs hl⟩
  | .sol ts, v, h => by
    obtain ⟨a, xs, o, e, hs, hd, na, hl⟩ := h
    refine ⟨a, xs, o, e, (keep a _ ⟨hs, fun ps z => by cases z⟩ na).1, hd, fun z => ?_, FzL.mono keep tups hav ts xs hl⟩
    rcases hav a z with z | z1
    · exact na z
    · rw [z1] at hs; cases hs
  | .lst ts, v, h => by
    obtain ⟨a, xs, e, hs, na, hl⟩ := h
    refine ⟨a, xs, e, Rd.monoK hs (fun ps z => by cases z) fun o q => keep a o q na, fun z => ?_, FzL.mono keep tups hav ts xs hl⟩
    rcases hav a z with z | z1
    · exact na z
    · obtain ⟨o, q⟩ := Rd.there hs
      rw [z1] at q; cases q
  | .set ts, v, h => by
    obtain ⟨a, S, n, is, e, hs, na, si, et⟩ := h
    refine ⟨a, S, n, is, e, (keep a _ ⟨hs, fun ps z => by cases z⟩ na).1, fun z => ?_, si, et⟩
    rcases hav a z with z | z1
    · exact na z
    · rw [z1] at hs; cases hs
  | .nd n ts, v, h => by
    obtain ⟨a, xs, o, e, hs, na, no, hl⟩ := h
    refine ⟨a, xs, o, e, AtN.mono hs no.notbl fun o q => keep a o q na, fun z => ?_, no, FzL.mono keep tups hav ts xs hl⟩
    rcases hav a z with z | z1
    · exact na z
    · obtain ⟨o, q⟩ := AtN.there hs
      rw [z1] at q; cases q
  | .dn ts, v, h => by
    obtain ⟨a, ob, xs, e, hs, na, sm, hk, hl⟩ := h
    refine ⟨a, ob, xs, e, (keep a _ ⟨hs, fun ps z => by cases z⟩ na).1, fun z => ?_, sm, hk, FzL.mono keep tups hav ts _ hl⟩
    rcases hav a z with z | z1
    · exact na z
    · rw [z1] at hs; cases hs
  | .scr is, v, h => by
    obtain ⟨a, e, hs⟩ := h
    rcases hs with ⟨hs, na⟩ | hs
    · refine ⟨a, e, .inl ⟨Rd.monoK hs (fun ps z => by cases z) fun o q => keep a o q na, fun z => ?_⟩⟩
      rcases hav a z with z | z1
      · exact na z
      · obtain ⟨o, q⟩ := Rd.there hs
        rw [z1] at q; cases q
    · exact ⟨a, e, .inr hs⟩
theorem FzL.mono (keep : ∀ b o, KN H b o → ¬ av b → KN H' b o) (tups : ∀ b xs, Rd H b (.tup xs) → Rd H' b (.tup xs)) (hav : ∀ b, av' b → av b ∨ H b = none) :
    ∀ (ts : List T) (vs : List V), FzL K H av ts vs → FzL K H' av' ts vs
  | [], _, h => h
  | t :: ts, vs, h => by
    obtain ⟨v, r, e, h1, h2⟩ := h
    exact ⟨v, r, e, Fz.mono keep tups hav t v h1, FzL.mono keep tups hav ts r h2⟩
end
mutual
theorem Own.mono : ∀ (w : W) (v : V) (B : List Addr), (∀ b o, KN H b o → (b ∈ B ∨ ¬ av b) → KN H' b o) → (∀ b xs, Rd H b (.tup xs) → Rd H' b (.tup xs)) → (∀ b, av' b → av b ∨ H b = none) →
    Own K H av w v B → Own K H' av' w v B
  | .val t, v, B, keep, tups, hav, h => ⟨h.1, Fz.mono (fun b o q n => keep b o q (.inr n)) tups hav t v h.2⟩
  | .lst ws, v, B, keep, tups, hav, h => by
    obtain ⟨a, xs, D, e, eB, ha, hl⟩ := h
    subst eB
    exact ⟨a, xs, D, e, rfl, (keep a _ ⟨ha, fun ps z => by cases z⟩ (.inl List.mem_cons_self)).1, OwnL.mono ws xs D (fun b o q n => keep b o q (n.imp (List.mem_cons_of_mem _) id)) tups hav hl⟩
  | .nd n ws, v, B, keep, tups, hav, h => by
    obtain ⟨a, xs, o, D, e, eB, ha, no, hl⟩ := h
    subst eB
    exact ⟨a, xs, o, D, e, rfl, (keep a _ ⟨ha, no.1.notbl⟩ (.inl List.mem_cons_self)).1, no, OwnL.mono ws xs D (fun b o q n => keep b o q (n.imp (List.mem_cons_of_mem _) id)) tups hav hl⟩
  | .set ts, v, B, keep, tups, hav, h => by
    obtain ⟨a, S, n, is, e, eB, ha, si, et⟩ := h
    subst eB
    exact ⟨a, S, n, is, e, rfl, (keep a _ ⟨ha, fun ps z => by cases z⟩ (.inl List.mem_cons_self)).1, si, et⟩
theorem OwnL.mono : ∀ (ws : List W) (vs : List V) (B : List Addr), (∀ b o, KN H b o → (b ∈ B ∨ ¬ av b) → KN H' b o) → (∀ b xs, Rd H b (.tup xs) → Rd H' b (.tup xs)) → (∀ b, av' b → av b ∨ H b = none) →
    OwnL K H av ws vs B → OwnL K H' av' ws vs B
  | [], _, _, _, _, _, h => h
  | w :: ws, vs, B, keep, tups, hav, h => by
    obtain ⟨v, r, B1, B2, e, eB, h1, h2⟩ := h
    subst eB
    exact ⟨v, r, B1, B2, e, rfl, Own.mono w v B1 (fun b o q n => keep b o q (n.imp (List.mem_append_left _) id)) tups hav h1, OwnL.mono ws r B2 (fun b o q n => keep b o q (n.imp (List.mem_append_right _) id)) tups hav h2⟩
end
theorem RE.mono : ∀ (env : Env) (σ : St) (A : List Addr), (∀ b o, KN H b o → (b ∈ A ∨ ¬ av b) → KN H' b o) → (∀ b xs, Rd H b (.tup xs) → Rd H' b (.tup xs)) → (∀ b, av' b → av b ∨ H b = none) →
    RE K H av env σ A → RE K H' av' env σ A
  | [], _, _, _, _, _, h => h
  | none :: env, σ, A, keep, tups, hav, h => by
    obtain ⟨o, r, e, h⟩ := h
    exact ⟨o, r, e, RE.mono env r A keep tups hav h⟩
  | some w :: env, σ, A, keep, tups, hav, h => by
    obtain ⟨v, r, B1, B2, e, eB, h1, h2⟩ := h
    subst eB
    exact ⟨v, r, B1, B2, e, rfl, Own.mono w v B1 (fun b o q n => keep b o q (n.imp (List.mem_append_left _) id)) tups hav h1, RE.mono env r B2 (fun b o q n => keep b o q (n.imp (List.mem_append_right _) id)) tups hav h2⟩
mutual
theorem Own.fz (hav : ∀ b, av' b → av b) : ∀ (w : W) (v : V) (B : List Addr), (∀ b ∈ B, ¬ av' b) → Own K H av w v B → Fz K H av' w.fz v
  | .val t, v, B, _, h => Fz.mono (fun b o q n => q) (fun _ _ q => q) (fun b z => .inl (hav b z)) t v h.2
  | .lst ws, v, B, nb, h => by
    obtain ⟨a, xs, D, e, eB, ha, hl⟩ := h
    subst eB
    exact ⟨a, xs, e, Rd.of ha, nb a List.mem_cons_self, OwnL.fz hav ws xs D (fun b hb => nb b (List.mem_cons_of_mem _ hb)) hl⟩
  | .nd n ws, v, B, nb, h => by
    obtain ⟨a, xs, o, D, e, eB, ha, no, hl⟩ := h
    subst eB
    exact ⟨a, xs, o, e, AtN.of ha no.2, nb a List.mem_cons_self, no.1, OwnL.fz hav ws xs D (fun b hb => nb b (List.mem_cons_of_mem _ hb)) hl⟩
  | .set ts, v, B, nb, h => by
    obtain ⟨a, S, n, is, e, eB, ha, si, et⟩ := h
    subst eB
    exact ⟨a, S, n, is, e, ha, nb a List.mem_cons_self, si, et⟩
theorem OwnL.fz (hav : ∀ b, av' b → av b) : ∀ (ws : List W) (vs : List V) (B : List Addr), (∀ b ∈ B, ¬ av' b) → OwnL K H av ws vs B → FzL K H av' (fzs ws) vs
  | [], _, _, _, h => h.1
  | w :: ws, vs, B, nb, h => by
    obtain ⟨v, r, B1, B2, e, eB, h1, h2⟩ := h
    subst eB
    exact ⟨v, r, e, Own.fz hav w v B1 (fun b hb => nb b (List.mem_append_left _ hb)) h1, OwnL.fz hav ws r B2 (fun b hb => nb b (List.mem_append_right _ hb)) h2⟩
end
mutual
theorem Own.there : ∀ (w : W) (v : V) (B : List Addr), Own K H av w v B → ∀ b ∈ B, ∃ o, H b = some o ∧ ∀ xs, ¬ Rd H b (.tup xs)
  | .val t, v, B, h, b, hb => by rw [h.1] at hb; cases hb
  | .lst ws, v, B, h, b, hb => by
    obtain ⟨a, xs, D, e, eB, ha, hl⟩ := h
    subst eB
    rcases List.mem_cons.mp hb with rfl | hb
    · refine ⟨_, ha, fun xs z => ?_⟩
      rcases z with z | ⟨o, z⟩ <;> (rw [ha] at z; cases z)
    · exact OwnL.there ws xs D hl b hb
  | .nd n ws, v, B, h, b, hb => by
    obtain ⟨a, xs, o, D, e, eB, ha, no, hl⟩ := h
    subst eB
    rcases List.mem_cons.mp hb with rfl | hb
    · refine ⟨_, ha, fun xs z => ?_⟩
      rcases z with z | ⟨u, z⟩
      · rw [ha] at z; exact no.1.notup _ (Option.some.inj z)
      · rw [ha] at z; exact no.1.nofrz _ _ (Option.some.inj z)
    · exact OwnL.there ws xs D hl b hb
  | .set ts, v, B, h, b, hb => by
    obtain ⟨a, S, n, is, e, eB, ha, si, et⟩ := h
    subst eB
    rcases List.mem_cons.mp hb with rfl | hb
    · refine ⟨_, ha, fun xs z => ?_⟩
      rcases z with z | ⟨o, z⟩ <;> (rw [ha] at z; cases z)
    · cases hb
theorem OwnL.there : ∀ (ws : List W) (vs : List V) (B : List Addr), OwnL K H av ws vs B → ∀ b ∈ B, ∃ o, H b = some o ∧ ∀ xs, ¬ Rd H b (.tup xs)
  | [], _, _, h, b, hb => by rw [h.2] at hb; cases hb
  | w :: ws, vs, B, h, b, hb => by
    obtain ⟨v, r, B1, B2, e, eB, h1, h2⟩ := h
    subst eB
    rcases List.mem_append.mp hb with hb | hb
    · exact Own.there w v B1 h1 b hb
    · exact OwnL.there ws r B2 h2 b hb
end
mutual
theorem Own.notbl : ∀ (w : W) (v : V) (B : List Addr), Own K H av w v B → ∀ b ∈ B, ∀ ps, H b ≠ some (.tbl ps)
  | .val t, v, B, h, b, hb => by rw [h.1] at hb; cases hb
  | .lst ws, v, B, h, b, hb => by
    obtain ⟨a, xs, D, e, eB, ha, hl⟩ := h
    subst eB
    rcases List.mem_cons.mp hb with rfl | hb
    · exact fun ps z => by rw [ha] at z; cases z
    · exact OwnL.notbl ws xs D hl b hb
  | .nd n ws, v, B, h, b, hb => by
    obtain ⟨a, xs, o, D, e, eB, ha, no, hl⟩ := h
    subst eB
    rcases List.mem_cons.mp hb with rfl | hb
    · exact fun ps z => by rw [ha] at z; exact no.1.notbl _ (Option.some.inj z)
    · exact OwnL.notbl ws xs D hl b hb
  | .set ts, v, B, h, b, hb => by
    obtain ⟨a, S, n, is, e, eB, ha, si, et⟩ := h
    subst eB
    rcases List.mem_cons.mp hb with rfl | hb
    · exact fun ps z => by rw [ha] at z; cases z
    · cases hb
theorem OwnL.notbl : ∀ (ws : List W) (vs : List V) (B : List Addr), OwnL K H av ws vs B → ∀ b ∈ B, ∀ ps, H b ≠ some (.tbl ps)
  | [], _, _, h, b, hb => by rw [h.2] at hb; cases hb
  | w :: ws, vs, B, h, b, hb => by
    obtain ⟨v, r, B1, B2, e, eB, h1, h2⟩ := h
    subst eB
    rcases List.mem_append.mp hb with hb | hb
    · exact Own.notbl w v B1 h1 b hb
    · exact OwnL.notbl ws r B2 h2 b hb
end
theorem RE.notbl : ∀ (env : Env) (σ : St) (A : List Addr), RE K H av env σ A → ∀ b ∈ A, ∀ ps, H b ≠ some (.tbl ps)
  | [], _, _, h, b, hb => by rw [h.2] at hb; cases hb
  | none :: env, σ, A, h, b, hb => by
    obtain ⟨o, r, e, h⟩ := h
    exact RE.notbl env r A h b hb
  | some w :: env, σ, A, h, b, hb => by
    obtain ⟨v, r, B, D, e, eA, h1, h2⟩ := h
    subst eA
    rcases List.mem_append.mp hb with hb | hb
    · exact Own.notbl w v B h1 b hb
    · exact RE.notbl env r D h2 b hb
theorem RE.there : ∀ (env : Env) (σ : St) (A : List Addr), RE K H av env σ A → ∀ b ∈ A, ∃ o, H b = some o ∧ ∀ xs, ¬ Rd H b (.tup xs)
  | [], _, _, h, b, hb => by rw [h.2] at hb; cases hb
  | none :: env, σ, A, h, b, hb => by
    obtain ⟨o, r, e, h⟩ := h
    exact RE.there env r A h b hb
  | some w :: env, σ, A, h, b, hb => by
    obtain ⟨v, r, B1, B2, e, eB, h1, h2⟩ := h
    subst eB
    rcases List.mem_append.mp hb with hb | hb
    · exact Own.there w v B1 h1 b hb
    · exact RE.there env r B2 h2 b hb
theorem RE.len : ∀ (env : Env) (σ : St) (A : List Addr), RE K H av env σ A → env.length = σ.length
  | [], _, _, h => by
    rw [h.1]
    rfl
  | none :: env, σ, A, h => by
    obtain ⟨o, r, e, h⟩ := h
    rw [e, List.length_cons, List.length_cons, RE.len env r A h]
  | some w :: env, σ, A, h => by
    obtain ⟨v, r, B1, B2, e, eB, h1, h2⟩ := h
    rw [e, List.length_cons, List.length_cons, RE.len env r B2 h2]
end
end Ev
namespace Ev
open PySem L2
variable [WW]

structure Go (A : List Addr) (H : Hp) (A' : List Addr) (H' : Hp) : Prop where
  keep : ∀ b o, KN H b o → b ∉ A → KN H' b o
  tups : ∀ b xs, Rd H b (.tup xs) → Rd H' b (.tup xs)
  new : ∀ b ∈ A', b ∈ A ∨ H b = none
  there : ∀ b, H b ≠ none → b ∉ A → H' b ≠ none
theorem code_heap (c : Addr) (q : Str) : ∃ h : Heap, ∃ (oc : Obj) (vs : Array Value) (t : Tok), h.get? c = some oc ∧ oc.data = .fields vs ∧ vs[1]? = some (.str q t) := by
  refine ⟨⟨(Array.replicate c default).push { cls := .none, data := .fields #[.none, .str q default] }, {}⟩, { cls := .none, data := .fields #[.none, .str q default] }, #[.none, .str q default], default, ?_, rfl, rfl⟩
  unfold Heap.get?
  have e : ((Array.replicate c (default : Obj)).push { cls := .none, data := .fields #[.none, .str q default] })[c]? = some ({ cls := .none, data := .fields #[.none, .str q default] } : Obj) := by
    have := Array.getElem?_push_size (xs := Array.replicate c (default : Obj)) (x := ({ cls := .none, data := .fields #[.none, .str q default] } : Obj))
    rw [Array.size_replicate] at this
    exact this
  show (match ((Array.replicate c (default : Obj)).push { cls := .none, data := .fields #[.none, .str q default] })[c]? with
    | some ⟨_, _, .freed, _⟩ => none
    | o => o) = _
  rw [e]
theorem not_code {c : Addr} {q : Str} {f : Heap → Prop} (hf : ∀ h o vs, h.get? c = some o → o.data = .fields vs → ¬ f h) : HO.ext f ≠ LamX.CodeO c q := fun z => by
  unfold LamX.CodeO at z
  have e := HO.ext.inj z
  obtain ⟨h, oc, vs, t, e1, e2, e3⟩ := code_heap c q
  refine hf h oc vs e1 e2 ?_
  rw [e]
  exact ⟨oc, vs, t, e1, e2, e3⟩
theorem Go.trans {A A1 B1 A2 : List Addr} {H H1 H2 : Hp} (g : Go A H (A1 ++ B1) H1) (g2 : Go A1 H1 A2 H2) : Go A H (A2 ++ B1) H2 where
  keep := fun b o q n => g2.keep b o (g.keep b o q n) fun z => (g.new b (List.mem_append_left _ z)).elim n q.ne
  tups := fun b xs h => g2.tups b xs (g.tups b xs h)
  new := fun b hb => by
    rcases List.mem_append.mp hb with hb | hb
    · rcases g2.new b hb with z | z
      · exact g.new b (List.mem_append_left _ z)
      · by_cases ha : b ∈ A
        · exact .inl ha
        · by_cases q : H b = none
          · exact .inr q
          · exact absurd z (g.there b q ha)
    · exact g.new b (List.mem_append_right _ hb)
  there := fun b q n => g2.there b (g.there b q n) fun z => (g.new b (List.mem_append_left _ z)).elim n q
theorem Go.sub {A A' A'' : List Addr} {H H' : Hp} (g : Go A H A' H') (h : ∀ b ∈ A'', b ∈ A') : Go A H A'' H' := ⟨g.keep, g.tups, fun b hb => g.new b (h b hb), g.there⟩
theorem Go.refl {A : List Addr} {H : Hp} : Go A H A H := ⟨fun _ _ q _ => q, fun _ _ q => q, fun _ hb => .inl hb, fun _ q _ => q⟩
theorem Go.ext {A A' A'' : List Addr} {H H1 H2 : Hp} (g : Go A H A' H1) (x : ∀ b o, H1 b = some o → H2 b = some o) (new : ∀ b ∈ A'', b ∈ A ∨ H b = none) : Go A H A'' H2 where
  keep := fun b o q n => (g.keep b o q n).up x
  tups := fun b xs h => Rd.mono (g.tups b xs h) fun u q => x b u q
  new := new
  there := fun b q n z => by
    cases e : H1 b with
    | none => exact g.there b q n e
    | some o => rw [x b o e] at z; cases z
theorem Go.put {A A' : List Addr} {H H1 : Hp} {a : Addr} {u : HO} (g : Go A H A' H1) (na : a ∈ A ∨ H a = none) (nt : ∀ xs, ¬ Rd H1 a (.tup xs)) (nx : ∀ q, H1 a ≠ some (LamX.CodeO a q)) : Go A H A' (L2.upd H1 a u) where
  keep := fun b v q n => by
    have h := g.keep b v q n
    have ne : b ≠ a := fun z => by
      subst z
      rcases na with z | z
      · exact n z
      · exact q.ne z
    exact ⟨(upd_ne ne).trans h.1, h.2⟩
  tups := fun b xs h => by
    have h1 := g.tups b xs h
    have ne : b ≠ a := fun z => by subst z; exact nt xs h1
    exact Rd.mono h1 fun v q => (upd_ne ne).trans q
  new := g.new
  there := fun b q n => by
    by_cases e : b = a
    · subst e; rw [upd_same]; exact fun z => by cases z
    · rw [upd_ne e]; exact g.there b q n
theorem Go.upd {A A' : List Addr} {H H' : Hp} {p : Addr} {o : HO} (g : Go A H A' H') (hp : H' p = none) : Go A H (p :: A') (L2.upd H' p o) :=
  g.ext (fun b u q => (upd_ne (ne_of_none q hp)).trans q) fun b hb => by
    rcases List.mem_cons.mp hb with rfl | hb
    · by_cases ha : b ∈ A
      · exact .inl ha
      · by_cases q : H b = none
        · exact .inr q
        · exact absurd hp (g.there b q ha)
    · exact g.new b hb
def RtB (B : List Addr) (Rt : Addr → Prop) : Addr → Prop := fun b => b ∈ B ∨ Rt b
def lamL : List Str := WW.lam
def lamTs (K : PySem.W.Frag) : List (Addr × Str) := lamL.filterMap fun x => (lamP K x).map fun P => (P, x ++ ".<locals>." ++ "<lambda>")
def TBs (K : PySem.W.Frag) (H : Hp) : Prop := LamX.Tabs (lamTs K) H
theorem TBs.ext {K : PySem.W.Frag} {H H' : Hp} (t : TBs K H) (x : ∀ b o, H b = some o → H' b = some o) : TBs K H' := LamX.Tabs.ext t x
theorem TBs.put {K : PySem.W.Frag} {H : Hp} {a : Addr} {u : HO} (t : TBs K H) (nt : ∀ ps, H a ≠ some (.tbl ps)) (nx : ∀ q, H a ≠ some (LamX.CodeO a q)) : TBs K (L2.upd H a u) := fun p hp => by
  obtain ⟨ps, h1, h2, h3⟩ := t p hp
  have ne : p.1 ≠ a := fun z => by rw [z] at h1; exact nt ps h1
  refine ⟨ps, (upd_ne ne).trans h1, h2, fun pos cv hc => ?_⟩
  obtain ⟨c, e1, e2⟩ := h3 pos cv hc
  exact ⟨c, e1, (upd_ne fun z => by subst z; exact nx _ e2).trans e2⟩
theorem TBs.upd {K : PySem.W.Frag} {H : Hp} {p : Addr} {o : HO} (t : TBs K H) (hp : H p = none) : TBs K (L2.upd H p o) := t.ext fun b u q => by rw [upd_ne (ne_of_none q hp)]; exact q
structure Rl (K : PySem.W.Frag) (Rt : Addr → Prop) (H : Hp) (σ : St) (env : Env) (A : List Addr) : Prop where
  nd : A.Nodup
  rt : ∀ b ∈ A, ¬ Rt b
  th : ∀ b, Rt b → H b ≠ none
  re : RE K H (Av A Rt) env σ A
  tb : TBs K H
structure Sx (K : PySem.W.Frag) (Rt : Addr → Prop) (σ : St) (H : Hp) (A : List Addr) (H' : Hp) (env : Env) (A' B : List Addr) : Prop where
  go : Go A H (A' ++ B) H'
  nd : (A' ++ B).Nodup
  rt : ∀ b ∈ A' ++ B, ¬ Rt b
  th : ∀ b, Rt b → H' b ≠ none
  bth : ∀ b ∈ B, H' b ≠ none
  re : RE K H' (Av (A' ++ B) Rt) env σ A'
  tb : TBs K H'
section
variable {K : PySem.W.Frag} {Rt : Addr → Prop} {H H1 H2 : Hp} {σ σ0 : St} {env env1 env2 : Env} {A A1 A2 B B' B1 B2 : List Addr} {p : Addr} {o : HO} {w : W} {ws : List W} {v : V} {vs : List V} {t : T} {ts : List T}
theorem Rl.sx (h : Rl K Rt H σ env A) : Sx K Rt σ H A H env A [] where
  go := by rw [List.append_nil]; exact Go.refl
  nd := by rw [List.append_nil]; exact h.nd
  rt := by rw [List.append_nil]; exact h.rt
  th := h.th
  bth := fun b hb => by cases hb
  re := by rw [List.append_nil]; exact h.re
  tb := h.tb
theorem Sx.rl (h : Sx K Rt σ H A H1 env1 A1 B1) : Rl K (RtB B1 Rt) H1 σ env1 A1 where
  nd := (List.nodup_append.mp h.nd).1
  rt := fun b hb z => by
    rcases z with z | z
    · exact (List.nodup_append.mp h.nd).2.2 b hb b z rfl
    · exact h.rt b (List.mem_append_left _ hb) z
  th := fun b z => by
    rcases z with z | z
    · exact h.bth b z
    · exact h.th b z
  re := RE.mono env1 σ A1 (fun b o q _ => q) (fun _ _ q => q) (fun b z => .inl (by
    rcases z with z | z | z
    · exact .inl (List.mem_append_left _ z)
    · exact .inl (List.mem_append_right _ z)
    · exact .inr z)) h.re
  tb := h.tb
theorem Sx.rl0 (h : Sx K Rt σ H A H1 env1 A1 []) : Rl K Rt H1 σ env1 A1 := by
  have e : A1 ++ [] = A1 := List.append_nil _
  exact ⟨by rw [← e]; exact h.nd, by rw [← e]; exact h.rt, h.th, by rw [← e]; exact (by have := h.re; rw [e] at this ⊢; exact this), h.tb⟩
theorem Sx.out (h : Sx K Rt σ H A H1 env1 A1 B1) {b : Addr} (hb : b ∈ B1) : b ∉ A1 := fun z => (List.nodup_append.mp h.nd).2.2 b z b hb rfl
theorem Sx.hav (h : Sx K Rt σ0 H A H1 env1 A1 B1) (n : Sx K (RtB B1 Rt) σ H1 A1 H2 env2 A2 B2) : ∀ b, Av (A2 ++ (B1 ++ B2)) Rt b → Av (A1 ++ B1) Rt b ∨ H1 b = none := fun b z => by
  rcases z with z | z
  · rcases List.mem_append.mp z with z | z
    · exact (n.go.new b (List.mem_append_left _ z)).imp (fun q => .inl (List.mem_append_left _ q)) id
    · rcases List.mem_append.mp z with z | z
      · exact .inl (.inl (List.mem_append_right _ z))
      · exact (n.go.new b (List.mem_append_right _ z)).imp (fun q => .inl (List.mem_append_left _ q)) id
  · exact .inl (.inr z)
theorem Sx.hav2 : ∀ b, Av (A2 ++ (B1 ++ B2)) Rt b → Av (A2 ++ B2) (RtB B1 Rt) b ∨ H2 b = none := fun b z => .inl (by
  rcases z with z | z
  · rcases List.mem_append.mp z with z | z
    · exact .inl (List.mem_append_left _ z)
    · rcases List.mem_append.mp z with z | z
      · exact .inr (.inl z)
      · exact .inl (List.mem_append_right _ z)
  · exact .inr (.inr z))
theorem Sx.next (h : Sx K Rt σ0 H A H1 env1 A1 B1) (n : Sx K (RtB B1 Rt) σ H1 A1 H2 env2 A2 B2) : Sx K Rt σ H A H2 env2 A2 (B1 ++ B2) where
  go := (h.go.trans n.go).sub fun b hb => by
    rcases List.mem_append.mp hb with z | z
    · exact List.mem_append_left _ (List.mem_append_left _ z)
    · rcases List.mem_append.mp z with z | z
      · exact List.mem_append_right _ z
      · exact List.mem_append_left _ (List.mem_append_right _ z)
  nd := by
    have d1 := List.nodup_append.mp n.nd
    have d2 := List.nodup_append.mp h.nd
    refine List.nodup_append.mpr ⟨d1.1, List.nodup_append.mpr ⟨d2.2.1, d1.2.1, fun a ha b hb e => ?_⟩, fun a ha b hb e => ?_⟩
    · subst e
      exact n.rt a (List.mem_append_right _ hb) (.inl ha)
    · subst e
      rcases List.mem_append.mp hb with hb | hb
      · exact n.rt a (List.mem_append_left _ ha) (.inl hb)
      · exact d1.2.2 a ha a hb rfl
  rt := fun b hb z => by
    rcases List.mem_append.mp hb with hb | hb
    · exact n.rt b (List.mem_append_left _ hb) (.inr z)
    · rcases List.mem_append.mp hb with hb | hb
      · exact h.rt b (List.mem_append_right _ hb) z
      · exact n.rt b (List.mem_append_right _ hb) (.inr z)
  th := fun b z => n.th b (.inr z)
  bth := fun b hb => by
    rcases List.mem_append.mp hb with hb | hb
    · exact n.th b (.inl hb)
    · exact n.bth b hb
  re := RE.mono env2 σ A2 (fun b o q _ => q) (fun _ _ q => q) Sx.hav2 n.re
  tb := n.tb
theorem Sx.own (h : Sx K Rt σ0 H A H1 env1 A1 B1) (n : Sx K (RtB B1 Rt) σ H1 A1 H2 env2 A2 B2) (ow : Own K H1 (Av (A1 ++ B1) Rt) w v B1) : Own K H2 (Av (A2 ++ (B1 ++ B2)) Rt) w v B1 :=
  Own.mono w v B1 (fun b o q c => n.go.keep b o q fun z => c.elim (fun c => h.out c z) fun c => c (.inl (List.mem_append_left _ z))) n.go.tups (h.hav n) ow
theorem Sx.ownL (h : Sx K Rt σ0 H A H1 env1 A1 B1) (n : Sx K (RtB B1 Rt) σ H1 A1 H2 env2 A2 B2) (ow : OwnL K H1 (Av (A1 ++ B1) Rt) ws vs B1) : OwnL K H2 (Av (A2 ++ (B1 ++ B2)) Rt) ws vs B1 :=
  OwnL.mono ws vs B1 (fun b o q c => n.go.keep b o q fun z => c.elim (fun c => h.out c z) fun c => c (.inl (List.mem_append_left _ z))) n.go.tups (h.hav n) ow
theorem Sx.own2 (ow : Own K H2 (Av (A2 ++ B2) (RtB B1 Rt)) w v B2) : Own K H2 (Av (A2 ++ (B1 ++ B2)) Rt) w v B2 :=
  Own.mono w v B2 (fun b o q _ => q) (fun _ _ q => q) Sx.hav2 ow
theorem Sx.ownL2 (ow : OwnL K H2 (Av (A2 ++ B2) (RtB B1 Rt)) ws vs B2) : OwnL K H2 (Av (A2 ++ (B1 ++ B2)) Rt) ws vs B2 :=
  OwnL.mono ws vs B2 (fun b o q _ => q) (fun _ _ q => q) Sx.hav2 ow
theorem Sx.avs (hs : ∀ b ∈ B', b ∈ B) : ∀ b, Av (A1 ++ B') Rt b → Av (A1 ++ B) Rt b := fun b z => by
  rcases z with z | z
  · rcases List.mem_append.mp z with z | z
    · exact .inl (List.mem_append_left _ z)
    · exact .inl (List.mem_append_right _ (hs b z))
  · exact .inr z
theorem Sx.drop (h : Sx K Rt σ H A H1 env1 A1 B) (nd : B'.Nodup) (hs : ∀ b ∈ B', b ∈ B) : Sx K Rt σ H A H1 env1 A1 B' where
  go := h.go.sub fun b hb => by
    rcases List.mem_append.mp hb with z | z
    · exact List.mem_append_left _ z
    · exact List.mem_append_right _ (hs b z)
  nd := by
    have d := List.nodup_append.mp h.nd
    exact List.nodup_append.mpr ⟨d.1, nd, fun a ha b hb e => d.2.2 a ha b (hs b hb) e⟩
  rt := fun b hb => h.rt b (by
    rcases List.mem_append.mp hb with z | z
    · exact List.mem_append_left _ z
    · exact List.mem_append_right _ (hs b z))
  th := h.th
  bth := fun b hb => h.bth b (hs b hb)
  re := RE.mono env1 σ A1 (fun b o q _ => q) (fun _ _ q => q) (fun b z => .inl (Sx.avs hs b z)) h.re
  tb := h.tb
theorem Sx.drop0 (h : Sx K Rt σ H A H1 env1 A1 B) : Sx K Rt σ H A H1 env1 A1 [] := h.drop List.nodup_nil fun b hb => by cases hb
theorem Sx.fz0 (h : Sx K Rt σ H A H1 env1 A1 B) (ow : Own K H1 (Av (A1 ++ B) Rt) w v B) : Fz K H1 (Av (A1 ++ []) Rt) w.fz v :=
  Own.fz (Sx.avs fun b hb => by cases hb) w v B (fun b hb z => by
    rcases z with z | z
    · rw [List.append_nil] at z; exact h.out hb z
    · exact h.rt b (List.mem_append_right _ hb) z) ow
theorem Sx.new (h : Sx K Rt σ H A H1 env1 A1 B) (hp : H1 p = none) : Sx K Rt σ H A (upd H1 p o) env1 A1 (p :: B) where
  go := (h.go.upd hp).sub fun b hb => by
    rcases List.mem_append.mp hb with z | z
    · exact List.mem_cons_of_mem _ (List.mem_append_left _ z)
    · rcases List.mem_cons.mp z with rfl | z
      · exact List.mem_cons_self
      · exact List.mem_cons_of_mem _ (List.mem_append_right _ z)
  nd := by
    have d := List.nodup_append.mp h.nd
    have nA : p ∉ A1 := fun z => by
      obtain ⟨o, q, _⟩ := RE.there env1 σ A1 h.re p z
      rw [hp] at q; cases q
    have nB : p ∉ B := fun z => h.bth p z hp
    refine List.nodup_append.mpr ⟨d.1, List.nodup_cons.mpr ⟨nB, d.2.1⟩, fun a ha b hb e => ?_⟩
    rcases List.mem_cons.mp hb with rfl | hb
    · subst e; exact nA ha
    · exact d.2.2 a ha b hb e
  rt := fun b hb z => by
    rcases List.mem_append.mp hb with q | q
    · exact h.rt b (List.mem_append_left _ q) z
    · rcases List.mem_cons.mp q with rfl | q
      · exact h.th b z hp
      · exact h.rt b (List.mem_append_right _ q) z
  th := fun b z => by
    by_cases e : b = p
    · subst e; rw [upd_same]; exact fun q => by cases q
    · rw [upd_ne e]; exact h.th b z
  bth := fun b hb => by
    by_cases e : b = p
    · subst e; rw [upd_same]; exact fun q => by cases q
    · rw [upd_ne e]
      rcases List.mem_cons.mp hb with z | z
      · exact absurd z e
      · exact h.bth b z
  re := RE.mono env1 σ A1 (fun b u q _ => q.fresh hp) (fun b xs q => Rd.mono q fun u q => by rw [upd_ne (ne_of_none q hp)]; exact q) (fun b z => by
    rcases z with z | z
    · rcases List.mem_append.mp z with z | z
      · exact .inl (.inl (List.mem_append_left _ z))
      · rcases List.mem_cons.mp z with rfl | z
        · exact .inr hp
        · exact .inl (.inl (List.mem_append_right _ z))
    · exact .inl (.inr z)) h.re
  tb := h.tb.upd hp
theorem Sx.newav (hp : H1 p = none) : ∀ b, Av (A1 ++ (p :: B)) Rt b → Av (A1 ++ B) Rt b ∨ H1 b = none := fun b z => by
  rcases z with z | z
  · rcases List.mem_append.mp z with z | z
    · exact .inl (.inl (List.mem_append_left _ z))
    · rcases List.mem_cons.mp z with rfl | z
      · exact .inr hp
      · exact .inl (.inl (List.mem_append_right _ z))
  · exact .inl (.inr z)
theorem newkeep (hp : H1 p = none) : ∀ b u, H1 b = some u → upd H1 p o b = some u := fun b u q => by rw [upd_ne (ne_of_none q hp)]; exact q
theorem newtups (hp : H1 p = none) : ∀ b xs, Rd H1 b (.tup xs) → Rd (upd H1 p o) b (.tup xs) := fun b xs q => Rd.mono q fun u q => newkeep hp b u q
theorem OwnL.newp (hp : H1 p = none) (ow : OwnL K H1 (Av (A1 ++ B) Rt) ws vs B) : OwnL K (upd H1 p o) (Av (A1 ++ (p :: B)) Rt) ws vs B :=
  OwnL.mono ws vs B (fun b u q _ => q.up (newkeep hp)) (newtups hp) (Sx.newav hp) ow
theorem FzL.newp (hp : H1 p = none) (ow : FzL K H1 (Av (A1 ++ B) Rt) ts vs) : FzL K (upd H1 p o) (Av (A1 ++ (p :: B)) Rt) ts vs :=
  FzL.mono (fun b u q _ => q.up (newkeep hp)) (newtups hp) (Sx.newav hp) ts vs ow
theorem RE.slot {av : Addr → Prop} : ∀ (env : Env) (σ : St) (A : List Addr) (i : Nat), RE K H av env σ A → i < env.length → ∃ A1 B A2, A = A1 ++ (B ++ A2) ∧ (env[i]? = some none → B = []) ∧
    (∀ w, env[i]? = some (some w) → ∃ v, σ[i]? = some (some v) ∧ Own K H av w v B) ∧
    ∀ (H' : Hp) (av' : Addr → Prop), (∀ b o, KN H b o → (b ∈ A1 ++ A2 ∨ ¬ av b) → KN H' b o) → (∀ b xs, Rd H b (.tup xs) → Rd H' b (.tup xs)) → (∀ b, av' b → av b ∨ H b = none) →
      (∀ o, RE K H' av' (env.set i none) (σ.set i o) (A1 ++ A2)) ∧ ∀ w' v' B', Own K H' av' w' v' B' → RE K H' av' (env.set i (some w')) (σ.set i (some v')) (A1 ++ (B' ++ A2))
  | [], _, _, _, _, hi => absurd hi (Nat.not_lt_zero _)
  | none :: env, σ, A, 0, h, _ => by
    obtain ⟨o, r, rfl, h⟩ := h
    refine ⟨[], [], A, rfl, fun _ => rfl, fun w e => (by simp at e), fun H' av' k t a => ⟨fun o' => ⟨o', r, rfl, RE.mono env r A k t a h⟩, fun w' v' B' ow => ⟨v', r, B', A, rfl, rfl, ow, RE.mono env r A k t a h⟩⟩⟩
  | none :: env, σ, A, i + 1, h, hi => by
    obtain ⟨o, r, rfl, h⟩ := h
    obtain ⟨A1, B, A2, eA, hn, hw, hu⟩ := RE.slot env r A i h (by simpa using hi)
    refine ⟨A1, B, A2, eA, fun e => hn (by simpa using e), fun w e => hw w (by simpa using e), fun H' av' k t a => ⟨fun o' => ⟨o, r.set i o', rfl, (hu H' av' k t a).1 o'⟩, fun w' v' B' ow => ⟨o, r.set i (some v'), rfl, (hu H' av' k t a).2 w' v' B' ow⟩⟩⟩
  | some w :: env, σ, A, 0, h, _ => by
    obtain ⟨v, r, B, D, rfl, rfl, h1, h2⟩ := h
    refine ⟨[], B, D, rfl, fun e => (by simp at e), fun w' e => ?_, fun H' av' k t a => ⟨fun o' => ⟨o', r, rfl, RE.mono env r D k t a h2⟩, fun w' v' B' ow => ⟨v', r, B', D, rfl, rfl, ow, RE.mono env r D k t a h2⟩⟩⟩
    have e' : w = w' := by simpa using e
    subst e'
    exact ⟨v, rfl, h1⟩
  | some w :: env, σ, A, i + 1, h, hi => by
    obtain ⟨v, r, B0, D, rfl, rfl, h1, h2⟩ := h
    obtain ⟨A1, B, A2, eA, hn, hw, hu⟩ := RE.slot env r D i h2 (by simpa using hi)
    subst eA
    have own : ∀ (H' : Hp) (av' : Addr → Prop), (∀ b o, KN H b o → (b ∈ (B0 ++ A1) ++ A2 ∨ ¬ av b) → KN H' b o) → (∀ b xs, Rd H b (.tup xs) → Rd H' b (.tup xs)) → (∀ b, av' b → av b ∨ H b = none) → Own K H' av' w v B0 := fun H' av' k t a =>
      Own.mono w v B0 (fun b o q c => k b o q (c.imp (fun c => List.mem_append_left _ (List.mem_append_left _ c)) id)) t a h1
    have k2 : ∀ (H' : Hp), (∀ b o, KN H b o → (b ∈ (B0 ++ A1) ++ A2 ∨ ¬ av b) → KN H' b o) → (∀ b o, KN H b o → (b ∈ A1 ++ A2 ∨ ¬ av b) → KN H' b o) := fun H' k b o q c => k b o q (c.imp (fun c => by rw [List.append_assoc]; exact List.mem_append_right _ c) id)
    refine ⟨B0 ++ A1, B, A2, by rw [List.append_assoc], fun e => hn (by simpa using e), fun w' e => hw w' (by simpa using e), fun H' av' k t a => ⟨fun o' => ⟨v, r.set i o', B0, A1 ++ A2, rfl, by rw [List.append_assoc], own H' av' k t a, (hu H' av' (k2 H' k) t a).1 o'⟩,
      fun w' v' B' ow => ⟨v, r.set i (some v'), B0, A1 ++ (B' ++ A2), rfl, by rw [List.append_assoc], own H' av' k t a, (hu H' av' (k2 H' k) t a).2 w' v' B' ow⟩⟩⟩
theorem set_same {α : Type} : ∀ {l : List α} {i : Nat} {x : α}, l[i]? = some x → l.set i x = l
  | [], _, _, h => by simp at h
  | _ :: _, 0, _, h => by simp at h; subst h; rfl
  | a :: l, i + 1, x, h => by rw [List.set_cons_succ, set_same (l := l) (i := i) (by simpa using h)]
theorem Rl.less (h : Rl K Rt H σ env A) (nd : A1.Nodup) (sub : ∀ b ∈ A1, b ∈ A) (re : RE K H (Av A1 Rt) env1 σ A1) : Sx K Rt σ H A H env1 A1 [] where
  go := by rw [List.append_nil]; exact Go.refl.sub sub
  nd := by rw [List.append_nil]; exact nd
  rt := by rw [List.append_nil]; exact fun b hb => h.rt b (sub b hb)
  th := h.th
  bth := fun b hb => by cases hb
  re := by rw [List.append_nil]; exact re
  tb := h.tb
theorem nodup_mid {A1 B A2 : List Addr} (h : (A1 ++ (B ++ A2)).Nodup) : (A1 ++ A2).Nodup ∧ ∀ b ∈ B, b ∉ A1 ++ A2 := by
  have d := List.nodup_append.mp h
  have d2 := List.nodup_append.mp d.2.1
  refine ⟨List.nodup_append.mpr ⟨d.1, d2.2.1, fun a ha b hb e => d.2.2 a ha b (List.mem_append_right _ hb) e⟩, fun b hb z => ?_⟩
  rcases List.mem_append.mp z with z | z
  · exact d.2.2 b z b (List.mem_append_left _ hb) rfl
  · exact d2.2.2 b hb b z rfl
theorem FzL.own {av : Addr → Prop} : ∀ (ts : List T) (vs : List V), FzL K H av ts vs → OwnL K H av (ts.map W.val) vs []
  | [], _, h => ⟨h, rfl⟩
  | t :: ts, vs, h => by
    obtain ⟨v, r, e, h1, h2⟩ := h
    exact ⟨v, r, [], [], e, rfl, ⟨rfl, h1⟩, FzL.own ts r h2⟩
end
end Ev
namespace Ev
open PySem L2
variable [WW]

structure Mk (K : PySem.W.Frag) (H : Hp) (av : Addr → Prop) (w : W) (v : V) (H' : Hp) (B : List Addr) : Prop where
  ext : ∀ b o, H b = some o → H' b = some o
  nd : B.Nodup
  fresh : ∀ b ∈ B, H b = none
  own : Own K H' (fun b => b ∈ B ∨ av b) w v B
section
variable {K : PySem.W.Frag} {H : Hp} {av : Addr → Prop} {t : T} {v : V}
theorem Mk.same (h : Fz K H av t v) : Mk K H av (.val t) v H [] :=
  ⟨fun _ _ q => q, List.nodup_nil, fun b hb => (by cases hb), ⟨rfl, Fz.mono (fun _ _ q _ => q) (fun _ _ q => q) (fun b z => .inl (z.elim (fun z => (by cases z)) id)) t v h⟩⟩
theorem Mk.int (i : Int) : Mk K H av (.val (.int i)) (.int i) H [] := Mk.same rfl
theorem Mk.bl (b : Bool) : Mk K H av (.val (.bl b)) (.bl b) H [] := Mk.same rfl
theorem Mk.lst {p : Addr} {xs : List V} {ws : List W} (hp : H p = none) (h : OwnL K H av ws xs []) : Mk K H av (.lst ws) (.ref p) (upd H p (.lst xs)) [p] where
  ext := fun b o q => newkeep hp b o q
  nd := List.nodup_cons.mpr ⟨fun z => (by cases z), List.nodup_nil⟩
  fresh := fun b hb => by
    rcases List.mem_cons.mp hb with rfl | z
    · exact hp
    · cases z
  own := ⟨p, xs, [], rfl, rfl, upd_same, OwnL.mono ws xs [] (fun b o q _ => q.up (newkeep hp)) (newtups hp) (fun b z => by
    rcases z with z | z
    · rcases List.mem_cons.mp z with rfl | z
      · exact .inr hp
      · cases z
    · exact .inl z) h⟩
theorem Mk.fzl {p : Addr} {xs : List V} {ts : List T} (hp : H p = none) (h : FzL K H av ts xs) : Mk K H av (.lst (ts.map .val)) (.ref p) (upd H p (.lst xs)) [p] := Mk.lst hp (FzL.own ts xs h)
theorem Mk.tup {p : Addr} {xs : List V} {ts : List T} (hp : H p = none) (h : FzL K H av ts xs) : Mk K H av (.val (.tup ts)) (.ref p) (upd H p (.tup xs)) [] where
  ext := fun b o q => newkeep hp b o q
  nd := List.nodup_nil
  fresh := fun b hb => by cases hb
  own := ⟨rfl, p, xs, rfl, SqT.of upd_same, FzL.mono (fun b o q _ => q.up (newkeep hp)) (newtups hp) (fun b z => .inl (z.elim (fun z => by cases z) id)) ts xs h⟩
theorem FzL.append {ts us : List T} {xs ys : List V} (h1 : FzL K H av ts xs) (h2 : FzL K H av us ys) : FzL K H av (ts ++ us) (xs ++ ys) := by
  induction ts generalizing xs with
  | nil => cases (show xs = [] from h1); exact h2
  | cons t ts ih =>
    obtain ⟨v, r, rfl, a, b⟩ := h1
    exact ⟨v, r ++ ys, rfl, a, ih b⟩
theorem FzL.len {ts : List T} {xs : List V} (h1 : FzL K H av ts xs) : ts.length = xs.length := by
  induction ts generalizing xs with
  | nil => cases (show xs = [] from h1); rfl
  | cons t ts ih =>
    obtain ⟨v, r, rfl, a, b⟩ := h1
    rw [List.length_cons, List.length_cons, ih b]
theorem FzL.get {ts : List T} {xs : List V} {i : Nat} {t : T} (h1 : FzL K H av ts xs) (e : ts[i]? = some t) : ∃ v, xs[i]? = some v ∧ Fz K H av t v := by
  induction ts generalizing xs i with
  | nil => simp at e
  | cons u ts ih =>
    obtain ⟨v, r, rfl, a, b⟩ := h1
    cases i with
    | zero => simp at e; subst e; exact ⟨v, rfl, a⟩
    | succ i => exact ih (i := i) b (by simpa using e)
theorem FzL.drop {ts : List T} {xs : List V} (h : FzL K H av ts xs) : ∀ n, FzL K H av (ts.drop n) (xs.drop n) := by
  induction ts generalizing xs with
  | nil => intro n; cases (show xs = [] from h); simp; rfl
  | cons t ts ih =>
    obtain ⟨v, r, rfl, a, b⟩ := h
    intro n
    cases n with
    | zero => exact ⟨v, r, rfl, a, b⟩
    | succ n => exact ih b n
theorem FzL.take {ts : List T} {xs : List V} (h : FzL K H av ts xs) : ∀ n, FzL K H av (ts.take n) (xs.take n) := by
  induction ts generalizing xs with
  | nil => intro n; cases (show xs = [] from h); simp; rfl
  | cons t ts ih =>
    obtain ⟨v, r, rfl, a, b⟩ := h
    intro n
    cases n with
    | zero => rfl
    | succ n => exact ⟨v, r.take n, rfl, a, ih b n⟩
theorem FzL.ints {ts : List T} {xs : List V} {is : List Int} (h : FzL K H av ts xs) (e : T.ints ts = some is) : xs = is.map V.int := by
  induction ts generalizing xs is with
  | nil => cases (show xs = [] from h); cases e; rfl
  | cons t ts ih =>
    obtain ⟨v, r, rfl, a, b⟩ := h
    cases t with
    | int i =>
      obtain ⟨js, e1, e2⟩ := Option.map_eq_some_iff.mp (show (T.ints ts).map (i :: ·) = some is from e)
      subst e2
      rw [ih b e1, show v = V.int i from a]
      rfl
    | _ => cases e
theorem FzL.bls {ts : List T} {xs : List V} {bs : List Bool} (h : FzL K H av ts xs) (e : T.bls ts = some bs) : xs = bs.map V.bl := by
  induction ts generalizing xs bs with
  | nil => cases (show xs = [] from h); cases e; rfl
  | cons t ts ih =>
    obtain ⟨v, r, rfl, a, b⟩ := h
    cases t with
    | bl i =>
      obtain ⟨js, e1, e2⟩ := Option.map_eq_some_iff.mp (show (T.bls ts).map (i :: ·) = some bs from e)
      subst e2
      rw [ih b e1, show v = V.bl i from a]
      rfl
    | _ => cases e
mutual
theorem Fz.dp : ∀ (t : T) (v : V) (d : PyData), t.pd = some d → Fz K H av t v → Dp K H v d
  | .non, v, d, e, h => by cases e; cases (show v = _ from h); exact .non
  | .bl b, v, d, e, h => by cases e; cases (show v = _ from h); exact .bl b
  | .int i, v, d, e, h => by cases e; cases (show v = _ from h); exact .int i
  | .str x, v, d, e, h => by cases e; cases (show v = _ from h); exact .str x
  | .tup ts, v, d, e, h => by
    obtain ⟨ds, e1, rfl⟩ := Option.map_eq_some_iff.mp (show (pds ts).map PyData.tuple = some d from e)
    obtain ⟨a, xs, rfl, hs, hl⟩ := h
    exact .tup hs (FzL.dp ts xs ds e1 hl)
  | .sol ts, v, d, e, h => by
    obtain ⟨ds, e1, rfl⟩ := Option.map_eq_some_iff.mp (show (pds ts).map PyData.tuple = some d from e)
    obtain ⟨a, xs, o, rfl, hs, _, _, hl⟩ := h
    exact .tup (.inl (.inr ⟨o, hs⟩)) (FzL.dp ts xs ds e1 hl)
  | .lst ts, v, d, e, h => by
    obtain ⟨ds, e1, rfl⟩ := Option.map_eq_some_iff.mp (show (pds ts).map PyData.list = some d from e)
    obtain ⟨a, xs, rfl, hs, _, hl⟩ := h
    exact .lst (.inl hs) (FzL.dp ts xs ds e1 hl)
  | .ty _, _, _, e, _ => by cases e
  | .gl _, _, _, e, _ => by cases e
  | .nd _ _, _, _, e, _ => by cases e
  | .set _, _, _, e, _ => by cases e
theorem FzL.dp : ∀ (ts : List T) (vs : List V) (ds : List PyData), pds ts = some ds → FzL K H av ts vs → DpAll K H vs ds
  | [], vs, ds, e, h => by cases e; cases (show vs = [] from h); exact .nil
  | t :: ts, vs, ds, e, h => by
    obtain ⟨v, r, rfl, h1, h2⟩ := h
    have e' : (match t.pd, pds ts with | some d, some ds => some (d :: ds) | _, _ => none) = some ds := e
    cases e1 : t.pd with
    | none => rw [e1] at e'; cases e'
    | some d =>
      rw [e1] at e'
      cases e2 : pds ts with
      | none => rw [e2] at e'; cases e'
      | some ds' =>
        rw [e2] at e'
        cases e'
        exact .cons (Fz.dp t v d e1 h1) (FzL.dp ts r ds' e2 h2)
end
end

def rP2 (K : PySem.W.Frag) (f : T → T → Option W) : R2 := fun x y H Q => ∃ av tx ty w, Fz K H av tx x ∧ Fz K H av ty y ∧ f tx ty = some w ∧ ∀ v H' B, Mk K H av w v H' B → Q v H'
def rP1 (K : PySem.W.Frag) (f : T → Option W) : V → Hp → VK → Prop := fun x H Q => ∃ av tx w, Fz K H av tx x ∧ f tx = some w ∧ ∀ v H' B, Mk K H av w v H' B → Q v H'
def rPL (K : PySem.W.Frag) (f : List T → Option W) : List V → Hp → VK → Prop := fun xs H Q => ∃ av ts w, FzL K H av ts xs ∧ f ts = some w ∧ ∀ v H' B, Mk K H av w v H' B → Q v H'
section
variable {X : Cx}
theorem OpR.imp {f : Value → Value → Sem Value} {r r' : R2} (h : OpR X f r) (i : ∀ x y H Q, r' x y H Q → r x y H Q) : OpR X f r' :=
  fun pins s σ H x y v u Q I rx ry q => h pins s σ H x y v u Q I rx ry (i x y H Q q)
theorem mulOk_ok {i j : Int} (h : mulOk i j = true) : CMul i j := by
  unfold mulOk at h
  simp only [Bool.or_eq_true, Bool.and_eq_true, decide_eq_true_eq] at h
  unfold CMul
  omega
theorem Inv.lstR {pins : List (Addr × Obj)} {σ : St} {H : Hp} {s : Shared} {l : Addr} {xs : List V} (I : Inv X pins σ H s) (h : Rd H l (.lst xs)) :
    xs.length ≤ sizeLine ∧ ∃ (its : List Value) (n : Nat), Vals xs its ∧ xs.length = its.length ∧ s.heap.get? l = some { cls := .type "list", data := .seq its.toArray n } := by
  obtain ⟨z, its, n, r, e⟩ := h.ok I.hok
  exact ⟨z, its, n, r, r.length, e⟩
theorem op_catR : OpR X (binaryOp .Add) (fun x y H Q => ∃ l b xs zs, x = .ref l ∧ y = .ref b ∧ Rd H l (.lst xs) ∧ Rd H b (.lst zs) ∧ xs.length + zs.length ≤ sizeLine ∧ ∀ p, H p = none → Q (.ref p) (upd H p (.lst (xs ++ zs)))) := by
  intro pins s σ H x y v u Q I rx ry h
  obtain ⟨l, b, xs, zs, rfl, rfl, hH, hB, hz, q⟩ := h
  cases rx
  cases ry
  obtain ⟨z, its, n, r, hl, e⟩ := Ev.Inv.lstR I hH
  obtain ⟨z2, its2, n2, r2, hl2, e2⟩ := Ev.Inv.lstR I hB
  refine PySem.P.add_list e e2 ?_ (by rw [List.size_toArray, List.size_toArray]; omega)
  have ea : its.toArray ++ its2.toArray = (its ++ its2).toArray := by simp
  rw [ea]
  exact ⟨.ref _, _, I.lnew (t' := s.toks) (r.append r2) (by rw [List.length_append]; omega), rfl, q _ I.fresh⟩
theorem op_repR : OpR X (binaryOp .Mult) (fun x y H Q => ∃ l k xs, x = .ref l ∧ y = .int k ∧ Rd H l (.lst xs) ∧ (-8388608 ≤ k ∧ k ≤ 8388608) ∧ xs.length * k.toNat ≤ sizeLine ∧ ∀ p, H p = none → Q (.ref p) (upd H p (.lst (List.replicate k.toNat xs).flatten))) := by
  intro pins s σ H x y v u Q I rx ry h
  obtain ⟨l, k, xs, rfl, rfl, hH, hk, hz, q⟩ := h
  cases rx
  obtain ⟨t, rfl⟩ := ry
  obtain ⟨z, its, n, r, hl, e⟩ := Ev.Inv.lstR I hH
  have l1 : its.toArray.size * k.toNat ≤ sizeLine := by rw [List.size_toArray, ← hl]; exact hz
  have l2 : ¬ its.toArray.size * k.toNat > (2 ^ 63 - 1) / 8 := by
    have c : (sizeLine : Nat) ≤ (2 ^ 63 - 1) / 8 := by decide
    omega
  have l3 : ¬ (!Builtin.List.listFitsIndex k) = true := by
    rw [fitsIndex_both (by omega) (by omega)]
    exact Bool.false_ne_true
  have l4 : ¬ Builtin.List.listTooLong (its.toArray.size * k.toNat) = true := by
    rw [notLongL l1]
    exact Bool.false_ne_true
  have l5 : List.foldl (fun x1 x2 => x1 ++ x2) #[] (List.replicate (if its.toArray.isEmpty = true then 0 else k.toNat) its.toArray) = (List.replicate k.toNat its).flatten.toArray := by
    have f0 : ∀ m : Nat, List.foldl (fun x1 x2 => x1 ++ x2) #[] (List.replicate m its.toArray) = (List.replicate m its).flatten.toArray := fun m => by
      have f1 := foldl_rep its m []
      rw [List.nil_append] at f1
      exact f1
    rw [f0]
    cases its with
    | nil => simp
    | cons a r' => rw [if_neg (by simp)]
  refine wpAny_binaryOp_repeat_ref (T := "list") (U := "int") (by decide) ⟨_, e, rfl⟩ (fun s' => typeIs_int s' k t) noFill_list_mul F.fills_int_mul F.slot_int_rmul repeat_list F.slot_int_index.lookup
    (call_meets F.slot_int_rmul (typeIs_int s k t) F.entry_int_rmul (F.args_int_rmul_2 _ _) (int___rmul___int_list k t l its.toArray n)
      ⟨e, rfl, ⟨_, e, rfl⟩, call_meets F.slot_list_mul ⟨_, e, rfl⟩ F.entry_list_mul (F.args_list_mul_2 _ _) (AutoListH.list___mul___list_int_3 l its.toArray n k t l3 l2 l4) ⟨e, ?_⟩⟩)
  rw [l5]
  exact ⟨.ref _, _, I.lnew (t' := s.toks) (r.rep k.toNat) (by rw [PyProof.Rows.lm_len_rep_flat, Nat.mul_comm]; exact hz), rfl, q _ I.fresh⟩
theorem FzL.rep {K : PySem.W.Frag} {H : Hp} {av : Addr → Prop} {ts : List T} {xs : List V} (h : FzL K H av ts xs) : ∀ n, FzL K H av (List.replicate n ts).flatten (List.replicate n xs).flatten
  | 0 => rfl
  | n + 1 => by
    rw [List.replicate_succ, List.replicate_succ, List.flatten_cons, List.flatten_cons]
    exact h.append (FzL.rep h n)
theorem op_all (o : Operator) : OpR X (binaryOp o) (rP2 X.K (opT o)) := by
  intro pins s σ H x y v u Q I rx ry h
  obtain ⟨av, tx, ty, w, hx, hy, e, q⟩ := h
  have intc : ∀ (i j : Int), tx = .int i → ty = .int j → wpAny (model X.prog X.w) X.A (binaryOp o v u) (EP X pins σ Q) X.xe s := by
    intro i j e1 e2
    subst e1 e2
    cases (show x = .int i from hx)
    cases (show y = .int j from hy)
    obtain ⟨k, ek, ew⟩ := Option.map_eq_some_iff.mp (show (opInt o i j).map (fun k => W.val (.int k)) = some w from e)
    subst ew
    have fin : Q (.int k) H := q (.int k) H [] (Mk.int k)
    cases o with
    | Add => cases ek; exact op_add pins s σ H _ _ v u Q I rx ry ⟨i, j, rfl, rfl, fin⟩
    | Sub => cases ek; exact op_sub pins s σ H _ _ v u Q I rx ry ⟨i, j, rfl, rfl, fin⟩
    | Mult =>
      have ek' : (if mulOk i j = true then some (i * j) else none) = some k := ek
      by_cases c : mulOk i j = true
      · rw [if_pos c] at ek'; cases ek'
        exact op_mul pins s σ H _ _ v u Q I rx ry ⟨i, j, rfl, rfl, mulOk_ok c, fin⟩
      · rw [if_neg c] at ek'; cases ek'
    | FloorDiv =>
      have ek' : (if (decide (0 < j) && decide (j < 1073741824)) = true then some (i / j) else none) = some k := ek
      by_cases c : (decide (0 < j) && decide (j < 1073741824)) = true
      · rw [if_pos c] at ek'; cases ek'
        simp only [Bool.and_eq_true, decide_eq_true_eq] at c
        exact op_fdiv pins s σ H _ _ v u Q I rx ry ⟨i, j, rfl, rfl, c, fin⟩
      · rw [if_neg c] at ek'; cases ek'
    | Mod =>
      have ek' : (if decide (0 < j) = true then some (i % j) else none) = some k := ek
      by_cases c : decide (0 < j) = true
      · rw [if_pos c] at ek'; cases ek'
        exact op_mod pins s σ H _ _ v u Q I rx ry ⟨i, j, rfl, rfl, of_decide_eq_true c, fin⟩
      · rw [if_neg c] at ek'; cases ek'
    | Pow =>
      have ek' : (if (decide (0 ≤ j) && decide (j ≤ 1000000) && decide (i.natAbs < 18446744073709551616)) = true then some (i ^ j.toNat) else none) = some k := ek
      by_cases c : (decide (0 ≤ j) && decide (j ≤ 1000000) && decide (i.natAbs < 18446744073709551616)) = true
      · rw [if_pos c] at ek'; cases ek'
        simp only [Bool.and_eq_true, decide_eq_true_eq] at c
        exact op_pow pins s σ H _ _ v u Q I rx ry ⟨i, j, rfl, rfl, ⟨c.1.1, c.1.2, c.2⟩, fin⟩
      · rw [if_neg c] at ek'; cases ek'
    | _ => cases ek
  cases tx with
  | int i =>
    cases ty with
    | int j => exact intc i j rfl rfl
    | _ => cases e
  | lst ts =>
    cases ty with
    | lst us =>
      cases o with
      | Add =>
        have e' : (if decide (ts.length + us.length ≤ 16777216) = true then some (W.lst ((ts ++ us).map .val)) else none) = some w := e
        by_cases c : decide (ts.length + us.length ≤ 16777216) = true
        · rw [if_pos c] at e'; cases e'
          have c := of_decide_eq_true c
          obtain ⟨a, xs, rfl, ha, _, hl⟩ := hx
          obtain ⟨b, ys, rfl, hb, _, hm⟩ := hy
          refine op_catR pins s σ H _ _ v u Q I rx ry ⟨a, b, xs, ys, rfl, rfl, ha, hb, ?_, fun p hp => q _ _ _ (Mk.fzl hp (hl.append hm))⟩
          rw [sizeLine_eq, ← hl.len, ← hm.len]
          exact c
        · rw [if_neg c] at e'; cases e'
      | _ => cases e
    | int k =>
      cases o with
      | Mult =>
        have e' : (if (decide (-8388608 ≤ k) && (decide (k ≤ 8388608) && decide (ts.length * k.toNat ≤ 16777216))) = true then some (W.lst ((List.replicate k.toNat ts).flatten.map .val)) else none) = some w := e
        by_cases c : (decide (-8388608 ≤ k) && (decide (k ≤ 8388608) && decide (ts.length * k.toNat ≤ 16777216))) = true
        · rw [if_pos c] at e'; cases e'
          simp only [Bool.and_eq_true, decide_eq_true_eq] at c
          obtain ⟨a, xs, rfl, ha, _, hl⟩ := hx
          cases (show y = .int k from hy)
          refine op_repR pins s σ H _ _ v u Q I rx ry ⟨a, k, xs, rfl, rfl, ha, ⟨c.1, c.2.1⟩, ?_, fun p hp => q _ _ _ (Mk.fzl hp (hl.rep _))⟩
          rw [sizeLine_eq, ← hl.len]
          exact c.2.2
        · rw [if_neg c] at e'; cases e'
      | _ => cases e
    | _ => cases e
  | _ => cases e
theorem DctO.get {K : PySem.W.Frag} {H : Hp} {av : Addr → Prop} {ks : List Key} {ts : List T} {xs : List V} {o : HO} {k : Key} {kvs : List (Key × V)} (e1 : kvs.map (·.1) = ks) (e2 : kvs.map (·.2) = xs) (hl : FzL K H av ts xs) :
    (getN ks ts k = none ∧ valV kvs k = none ∧ (ks.any fun j => decide (j = k)) = false) ∨ ∃ t v, getN ks ts k = some t ∧ valV kvs k = some v ∧ Fz K H av t v ∧ (ks.any fun j => decide (j = k)) = true := by
  induction kvs generalizing ks ts xs with
  | nil =>
    subst e1
    refine .inl ⟨?_, rfl, rfl⟩
    cases ts <;> rfl
  | cons p r ih =>
    subst e1 e2
    cases ts with
    | nil => exact absurd hl.len (by simp)
    | cons t ts =>
      obtain ⟨v, r', e, h1, h2⟩ := hl
      have e0 : p.2 = v := (List.cons.inj e).1
      have e9 : r.map (·.2) = r' := (List.cons.inj e).2
      by_cases c : p.1 = k
      · refine .inr ⟨t, v, ?_, ?_, h1, ?_⟩
        · show (if p.1 = k then some t else _) = _
          rw [if_pos c]
        · rw [valV_pos c, e0]
        · show (decide (p.1 = k) || _) = true
          rw [decide_eq_true c]; rfl
      · have g1 : getN (p.1 :: r.map (·.1)) (t :: ts) k = getN (r.map (·.1)) ts k := by
          show (if p.1 = k then some t else _) = _
          rw [if_neg c]
        have g2 : ((p.1 :: r.map (·.1)).any fun j => decide (j = k)) = ((r.map (·.1)).any fun j => decide (j = k)) := by
          show (decide (p.1 = k) || _) = _
          rw [decide_eq_false c]; rfl
        show (getN (p.1 :: r.map (·.1)) (t :: ts) k = none ∧ _ ∧ ((p.1 :: r.map (·.1)).any fun j => decide (j = k)) = false) ∨ ∃ t' v', getN (p.1 :: r.map (·.1)) (t :: ts) k = some t' ∧ _ ∧ _ ∧ ((p.1 :: r.map (·.1)).any fun j => decide (j = k)) = true
        rw [g1, g2, valV_neg c]
        exact ih rfl e9 h2
theorem key_fz {K : PySem.W.Frag} {H : Hp} {av : Addr → Prop} {t : T} {v : V} {k : Key} (h : Fz K H av t v) (e : keyT t = some k) : v = kV k := by
  cases t with
  | int i => cases e; exact h
  | str x => cases e; exact h
  | _ => cases e
theorem cmpB2_bl {a b : T} {k : Bool} (h : cmpB2 a b = some k) : ∃ x y, a = .bl x ∧ b = .bl y ∧ decide (x = y) = k := by
  cases a <;> cases b <;> first
    | (cases h; done)
    | exact ⟨_, _, rfl, rfl, Option.some.inj h⟩
theorem cmp_all (hu : X.A.units + 64 < cLine) (o : CmpOp) : OpR X (compareOp o) (rP2 X.K fun a b => (cmpT o a b).map fun b => .val (.bl b)) := by
  intro pins s σ H x y v u Q I rx ry h
  obtain ⟨av, tx, ty, w, hx, hy, e, q⟩ := h
  obtain ⟨k, ek, ew⟩ := Option.map_eq_some_iff.mp e
  subst ew
  have fin : Q (.bl k) H := q (.bl k) H [] (Mk.bl k)
  have eqs : ∀ (b : Bool), eqT tx ty = some b → ∃ d e', Dp X.K H x d ∧ Dp X.K H y e' ∧ SeqAt.shaped d = true ∧ SeqAt.shaped e' = true ∧ PyData.eqv d e' = b := by
    intro b eb
    unfold eqT at eb
    cases e1 : tx.pd with
    | none => rw [e1] at eb; cases eb
    | some d =>
      cases e2 : ty.pd with
      | none => rw [e1, e2] at eb; cases eb
      | some d2 =>
        rw [e1, e2] at eb
        have eb' : (if (SeqAt.shaped d && SeqAt.shaped d2) = true then some (PyData.eqv d d2) else none) = some b := eb
        by_cases c : (SeqAt.shaped d && SeqAt.shaped d2) = true
        · rw [if_pos c] at eb'
          rw [Bool.and_eq_true] at c
          exact ⟨d, d2, Fz.dp tx x d e1 hx, Fz.dp ty y d2 e2 hy, c.1, c.2, Option.some.inj eb'⟩
        · rw [if_neg c] at eb'; cases eb'
  have intc : ∀ (i j : Int), tx = .int i → ty = .int j → cmpInt o i j = some k → wpAny (model X.prog X.w) X.A (compareOp o v u) (EP X pins σ Q) X.xe s := by
    intro i j e1 e2 ec
    subst e1 e2
    cases (show x = .int i from hx)
    cases (show y = .int j from hy)
    cases o with
    | Lt => cases ec; exact op_lt pins s σ H _ _ v u Q I rx ry ⟨i, j, rfl, rfl, fin⟩
    | LtE => cases ec; exact op_le pins s σ H _ _ v u Q I rx ry ⟨i, j, rfl, rfl, fin⟩
    | Gt => cases ec; exact op_gt pins s σ H _ _ v u Q I rx ry ⟨i, j, rfl, rfl, fin⟩
    | GtE => cases ec; exact op_ge pins s σ H _ _ v u Q I rx ry ⟨i, j, rfl, rfl, fin⟩
    | _ => cases ec
  have rest : cmpI2 o tx ty = some k → wpAny (model X.prog X.w) X.A (compareOp o v u) (EP X pins σ Q) X.xe s := by
    intro er
    cases tx with
    | int i =>
      cases ty with
      | int j => exact intc i j rfl rfl er
      | _ => cases er
    | _ => cases er
  have isn : ∀ {t : T} {z : V}, Fz X.K H av t z → decide (z = .non) = t.isN := by
    intro t z hz
    cases t with
    | non => cases (show z = _ from hz); rfl
    | bl b => cases (show z = _ from hz); rfl
    | int b => cases (show z = _ from hz); rfl
    | str b => cases (show z = _ from hz); rfl
    | ty b => cases (show z = _ from hz); rfl
    | gl b => cases hz
    | tup ts => obtain ⟨a, xs, rfl, _⟩ := hz; rfl
    | lst ts => obtain ⟨a, xs, rfl, _⟩ := hz; rfl
    | set ts => obtain ⟨a, S, n, is, rfl, _⟩ := hz; rfl
    | nd n ts => obtain ⟨a, xs, o, rfl, _⟩ := hz; rfl
    | sol ts => obtain ⟨a, xs, o, rfl, _⟩ := hz; rfl
    | scr is => obtain ⟨a, rfl, _⟩ := hz; rfl
    | dn ts => obtain ⟨a, ob, xs, rfl, _⟩ := hz; rfl
  have ins : ∀ b, inAny tx ty = some b → (∃ d ds, Dp X.K H x d ∧ (Dp X.K H y (.list ds) ∨ Dp X.K H y (.tuple ds)) ∧ SeqAt.shaped d = true ∧ SeqAt.shaped (.list ds) = true ∧ d.depth ≤ 60 ∧ (ds.any fun z => PyData.eqv z d) = b) ∨
      ∃ a o, y = .ref a ∧ DGet H a x o ∧ o.isSome = b := by
    intro b eb
    have row : ∀ ts : List T, inT tx ts = some b → ∃ d ds, Dp X.K H x d ∧ pds ts = some ds ∧ SeqAt.shaped d = true ∧ SeqAt.shaped (.list ds) = true ∧ d.depth ≤ 60 ∧ (ds.any fun z => PyData.eqv z d) = b := by
      intro ts er
      unfold inT at er
      cases e1 : tx.pd with
      | none => rw [e1] at er; cases er
      | some d =>
        cases e2 : pds ts with
        | none => rw [e1, e2] at er; cases er
        | some ds =>
          rw [e1, e2] at er
          have er' : (if (SeqAt.shaped d && (SeqAt.shaped (.list ds) && decide (d.depth ≤ 60))) = true then some (ds.any fun z => PyData.eqv z d) else none) = some b := er
          by_cases c : (SeqAt.shaped d && (SeqAt.shaped (.list ds) && decide (d.depth ≤ 60))) = true
          · rw [if_pos c] at er'
            simp only [Bool.and_eq_true, decide_eq_true_eq] at c
            exact ⟨d, ds, Fz.dp tx x d e1 hx, rfl, c.1, c.2.1, c.2.2, Option.some.inj er'⟩
          · rw [if_neg c] at er'; cases er'
    cases ty with
    | lst ts =>
      obtain ⟨d, ds, h1, h2, h3, h4, h5, h6⟩ := row ts eb
      exact .inl ⟨d, ds, h1, .inl (Fz.dp (.lst ts) y (.list ds) (by show (pds ts).map PyData.list = _; rw [h2]; rfl) hy), h3, h4, h5, h6⟩
    | tup ts =>
      obtain ⟨d, ds, h1, h2, h3, h4, h5, h6⟩ := row ts eb
      exact .inl ⟨d, ds, h1, .inr (Fz.dp (.tup ts) y (.tuple ds) (by show (pds ts).map PyData.tuple = _; rw [h2]; rfl) hy), h3, h4, h5, h6⟩
    | sol ts =>
      obtain ⟨d, ds, h1, h2, h3, h4, h5, h6⟩ := row ts eb
      exact .inl ⟨d, ds, h1, .inr (Fz.dp (.sol ts) y (.tuple ds) (by show (pds ts).map PyData.tuple = _; rw [h2]; rfl) hy), h3, h4, h5, h6⟩
    | nd n ts =>
      obtain ⟨ks, ek1, e2⟩ := Option.bind_eq_some_iff.mp (show (n.keys.bind fun ks => (keyT tx).map fun k => ks.any fun j => decide (j = k)) = some b from eb)
      obtain ⟨kk, ek2, e3⟩ := Option.map_eq_some_iff.mp e2
      obtain ⟨a, xs, o, rfl, at_, _, no, hl⟩ := hy
      obtain ⟨kvs, rfl, f1, f2, _⟩ := no.dct ek1
      refine .inr ⟨a, valV kvs kk, rfl, .inl ⟨kvs, kk, at_.rd, key_fz hx ek2, rfl⟩, ?_⟩
      rcases DctO.get (o := .dK kvs) (k := kk) f1 f2 hl with ⟨_, g2, g3⟩ | ⟨_, _, _, g2, _, g3⟩
      · rw [g2, ← e3, g3]; rfl
      · rw [g2, ← e3, g3]; rfl
    | _ => cases eb
  have non : ty.isN = true → y = .non := fun z => by
    have := isn hy
    rw [z] at this
    exact of_decide_eq_true this
  cases o with
  | Eq =>
    obtain ⟨d, e', h1, h2, h3, h4, h5⟩ := eqs k ek
    exact op_eqD hu pins s σ H x y v u Q I rx ry ⟨d, e', h1, h2, h3, h4, by rw [h5]; exact fin⟩
  | NotEq =>
    obtain ⟨b, eb, ekb⟩ := Option.map_eq_some_iff.mp (show (eqT tx ty).map (!·) = some k from ek)
    obtain ⟨d, e', h1, h2, h3, h4, h5⟩ := eqs b eb
    exact op_neD hu pins s σ H x y v u Q I rx ry ⟨d, e', h1, h2, h3, h4, by rw [h5, ekb]; exact fin⟩
  | Lt => exact rest ek
  | LtE => exact rest ek
  | Gt => exact rest ek
  | GtE => exact rest ek
  | Is =>
    have ek' : (if ty.isN = true then some tx.isN else cmpB2 tx ty) = some k := ek
    by_cases c : ty.isN = true
    · rw [if_pos c] at ek'
      cases ek'
      exact op_isN pins s σ H x y v u Q I rx ry ⟨non c, by rw [isn hx]; exact fin⟩
    · rw [if_neg c] at ek'
      obtain ⟨a, b, rfl, rfl, eb0⟩ := cmpB2_bl ek'
      cases (show x = .bl a from hx)
      cases (show y = .bl b from hy)
      cases (show v = Value.bool a from rx)
      cases (show u = Value.bool b from ry)
      by_cases e2 : a = b
      · subst e2
        exact PySem.wpAny_is_self rfl ⟨.bl true, H, I, rfl, by rw [decide_eq_true rfl] at eb0; rw [eb0]; exact fin⟩
      · exact PySem.wpAny_is_other rfl (fun z => e2 (Value.bool.inj z)) ⟨.bl false, H, I, rfl, by rw [decide_eq_false e2] at eb0; rw [eb0]; exact fin⟩
  | IsNot =>
    have ek' : (if ty.isN = true then some (!tx.isN) else (cmpB2 tx ty).map (!·)) = some k := ek
    by_cases c : ty.isN = true
    · rw [if_pos c] at ek'
      cases ek'
      exact op_notN pins s σ H x y v u Q I rx ry ⟨non c, by rw [isn hx]; exact fin⟩
    · rw [if_neg c] at ek'
      obtain ⟨k0, ek0, ekk⟩ := Option.map_eq_some_iff.mp ek'
      obtain ⟨a, b, rfl, rfl, eb0⟩ := cmpB2_bl ek0
      cases (show x = .bl a from hx)
      cases (show y = .bl b from hy)
      cases (show v = Value.bool a from rx)
      cases (show u = Value.bool b from ry)
      subst ekk
      by_cases e2 : a = b
      · subst e2
        exact PySem.wpAny_isNot_self rfl ⟨.bl false, H, I, rfl, by rw [decide_eq_true rfl] at eb0; rw [← eb0] at fin; exact fin⟩
      · exact PySem.wpAny_isNot_other rfl (fun z => e2 (Value.bool.inj z)) ⟨.bl true, H, I, rfl, by rw [decide_eq_false e2] at eb0; rw [← eb0] at fin; exact fin⟩
  | In =>
    rcases ins k ek with ⟨d, ds, h1, h2, h3, h4, h5, h6⟩ | ⟨a, o, rfl, g, h6⟩
    · obtain ⟨as, r1⟩ := Dp.reads I d x v h1 rx
      have hu' : X.A.units + 1 + min (PyData.depthAll ds) d.depth < cLine := by omega
      rcases h2 with h2 | h2
      · obtain ⟨bs, r2⟩ := Dp.reads I (.list ds) y u h2 ry
        exact SeqAt.in_list_reads r2 r1 (SeqAt.canLay_of_shaped h4) (SeqAt.canLay_of_shaped h3) hu' ⟨.bl _, H, I, rfl, by rw [h6]; exact fin⟩
      · obtain ⟨bs, r2⟩ := Dp.reads I (.tuple ds) y u h2 ry
        exact SeqAt.in_tuple_reads r2 r1 (SeqAt.canLay_of_shaped h4) (SeqAt.canLay_of_shaped h3) hu' ⟨.bl _, H, I, rfl, by rw [h6]; exact fin⟩
    · obtain rfl : u = Value.ref a := ry
      exact d_in (by omega) I g rx fun s3 I3 => ⟨.bl o.isSome, H, I3, rfl, by rw [h6]; exact fin⟩
  | NotIn =>
    obtain ⟨b, eb, ekb⟩ := Option.map_eq_some_iff.mp (show (inAny tx ty).map (!·) = some k from ek)
    rcases ins b eb with ⟨d, ds, h1, h2, h3, h4, h5, h6⟩ | ⟨a, o, rfl, g, h6⟩
    · obtain ⟨as, r1⟩ := Dp.reads I d x v h1 rx
      have hu' : X.A.units + 1 + min (PyData.depthAll ds) d.depth < cLine := by omega
      rcases h2 with h2 | h2
      · obtain ⟨bs, r2⟩ := Dp.reads I (.list ds) y u h2 ry
        exact SeqAt.notIn_list_reads r2 r1 (SeqAt.canLay_of_shaped h4) (SeqAt.canLay_of_shaped h3) hu' ⟨.bl _, H, I, rfl, by rw [h6, ekb]; exact fin⟩
      · obtain ⟨bs, r2⟩ := Dp.reads I (.tuple ds) y u h2 ry
        exact SeqAt.notIn_tuple_reads r2 r1 (SeqAt.canLay_of_shaped h4) (SeqAt.canLay_of_shaped h3) hu' ⟨.bl _, H, I, rfl, by rw [h6, ekb]; exact fin⟩
    · obtain rfl : u = Value.ref a := ry
      exact d_notIn (by omega) I g rx fun s3 I3 => ⟨.bl (!o.isSome), H, I3, rfl, by rw [h6, ekb]; exact fin⟩
theorem neg_all : UnR X (unaryOp .USub) (rP1 X.K fun t => match t with | .int i => some (.val (.int (-i))) | _ => none) := by
  intro pins s σ H x v Q I rx h
  obtain ⟨av, tx, w, hx, e, q⟩ := h
  cases tx with
  | int i =>
    cases e
    cases (show x = .int i from hx)
    exact un_neg pins s σ H _ v Q I rx ⟨i, rfl, q _ _ _ (Mk.int _)⟩
  | _ => cases e
theorem scr_sq {K : PySem.W.Frag} {H : Hp} {av : Addr → Prop} {a : Addr} {xs : List V} (h : (Rd H a (.lst xs) ∧ ¬ av a) ∨ SqL K (fun _ => none) a xs) : SqL K H a xs := by
  rcases h with ⟨h, _⟩ | h
  · exact .inl h
  · rcases h with h | h
    · rcases h with h | ⟨o, h⟩ <;> cases h
    · exact .inr h
theorem dict_tail {prog : Program} {w : World} {A : Around} {Ex : Value → Shared → Prop} {s : Shared} {value slice : Expr} {o i : Value} {Q : Value → Shared → Prop} (hT : s.TypeIs o "dict") (h : wpAny (model prog w) A (getItem o i) Q Ex s)
    (hs : subscripted slice false o i = operate [o, i] (getItem o i)) : wpAny (model prog w) A (PyProof.Rows.subscriptTail value slice o i) Q Ex s := by
  unfold PyProof.Rows.subscriptTail
  refine wpAny_bind ?_
  rw [getitemInPython_of_ne hT.not_modules]
  refine wpAny_bind (wpAny_specialOf hT PySem.F.slot_dict_getitem.lookup ?_)
  have last : wpAny (model prog w) A (subscripted slice false o i) (fun r s3 => wpAny (model prog w) A (letTemporaryGo value o r >>= fun _ => pure r) Q Ex s3) Ex s := by
    rw [hs]
    exact wpAny_operating (wpAny_mono h (fun r s3 h3 => wpAny_bind (wpAny_letTemporaryGo (wpAny_pure h3))) fun _ _ z => z)
  first
    | exact wpAny_pure (wpAny_bind last)
    | exact wpAny_bind last
    | exact last
theorem ix_all (hu : X.A.units + 64 < cLine) : IxR X (rP2 X.K fun a b => (ixT a b).map .val) := by
  intro value slice pins s σ H x y v u Q I rx ry h hs
  obtain ⟨av, tx, ty, w, hx, hy, e, q⟩ := h
  obtain ⟨t, et, ew⟩ := Option.map_eq_some_iff.mp e
  subst ew
  have at_ : ∀ {ts : List T} {xs : List V} {i : Int}, FzL X.K H av ts xs → atI ts i = some t → ∃ z, atI xs i = some z ∧ Fz X.K H av t z := by
    intro ts xs i hl ea
    unfold atI at ea ⊢
    rw [← hl.len]
    cases en : L2.ixN ts.length i with
    | none => rw [en] at ea; cases ea
    | some j =>
      rw [en] at ea
      exact hl.get ea
  cases tx with
  | lst ts =>
    cases ty with
    | int i =>
      cases (show y = .int i from hy)
      obtain ⟨a, xs, rfl, ha, _, hl⟩ := hx
      obtain ⟨z, e1, e2⟩ := at_ hl et
      exact ix_list value slice pins s σ H _ _ v u Q I rx ry ⟨a, xs, i, z, rfl, rfl, .inl ha, e1, q _ _ _ (Mk.same e2)⟩ hs
    | _ => cases et
  | tup ts =>
    cases ty with
    | int i =>
      cases (show y = .int i from hy)
      obtain ⟨a, xs, rfl, ha, hl⟩ := hx
      obtain ⟨z, e1, e2⟩ := at_ hl et
      exact ix_tup value slice pins s σ H _ _ v u Q I rx ry ⟨a, xs, i, z, rfl, rfl, ha, e1, q _ _ _ (Mk.same e2)⟩ hs
    | _ => cases et
  | sol ts =>
    cases ty with
    | int i =>
      cases (show y = .int i from hy)
      obtain ⟨a, xs, o, rfl, ha, _, _, hl⟩ := hx
      obtain ⟨z, e1, e2⟩ := at_ hl et
      exact ix_tup value slice pins s σ H _ _ v u Q I rx ry ⟨a, xs, i, z, rfl, rfl, .inl (.inr ⟨o, ha⟩), e1, q _ _ _ (Mk.same e2)⟩ hs
    | _ => cases et
  | scr is =>
    cases ty with
    | int i =>
      cases (show y = .int i from hy)
      obtain ⟨a, rfl, ha⟩ := hx
      obtain ⟨k, e1, e2⟩ := Option.map_eq_some_iff.mp (show (atI is i).map T.int = some t from et)
      subst e2
      have hs' : SqL X.K H a (is.map V.int) := scr_sq ha
      have ea : atI (is.map V.int) i = some (.int k) := by
        unfold atI at e1 ⊢
        rw [List.length_map]
        cases en : L2.ixN is.length i with
        | none => rw [en] at e1; cases e1
        | some j =>
          rw [en] at e1
          show (is.map V.int)[j]? = _
          rw [List.getElem?_map, show is[j]? = some k from e1]
          rfl
      exact ix_list value slice pins s σ H _ _ v u Q I rx ry ⟨a, _, i, _, rfl, rfl, hs', ea, q _ _ _ (Mk.same rfl)⟩ hs
    | _ => cases et
  | nd n ts =>
    have et' : (n.keys.bind fun ks => (keyT ty).bind (getN ks ts)) = some t := by
      cases ty <;> exact et
    obtain ⟨ks, ek1, e2⟩ := Option.bind_eq_some_iff.mp et'
    obtain ⟨kk, ek2, e3⟩ := Option.bind_eq_some_iff.mp e2
    obtain ⟨a, xs, o, rfl, at_, _, no, hl⟩ := hx
    obtain ⟨kvs, rfl, f1, f2, _⟩ := no.dct ek1
    rcases DctO.get (o := .dK kvs) (k := kk) f1 f2 hl with ⟨g1, _⟩ | ⟨t', z, g1, g2, g3, _⟩
    · rw [g1] at e3; cases e3
    · rw [g1] at e3
      cases e3
      obtain rfl : v = Value.ref a := rx
      have g : DGet H a y (some z) := .inl ⟨kvs, kk, at_.rd, key_fz hy ek2, g2.symm⟩
      exact dict_tail (dict_typeIs I g) (d_getItem (by omega) I g ry fun w' s3 I3 rw' => ⟨z, H, I3, rw', q _ _ _ (Mk.same g3)⟩) hs
  | _ => cases et
theorem tru_all {K : PySem.W.Frag} {H : Hp} {av : Addr → Prop} {t : T} {v : V} {b : Bool} (h : Fz K H av t v) (e : t.tru = some b) : TruV K v H b := by
  cases t with
  | non => cases e; cases (show v = _ from h); rfl
  | bl c => cases e; cases (show v = _ from h); rfl
  | int i => cases e; cases (show v = _ from h); rfl
  | lst ts =>
    cases e
    obtain ⟨a, xs, rfl, ha, _, hl⟩ := h
    refine .inl ⟨xs, .inl ha, ?_⟩
    have := hl.len
    cases ts <;> cases xs <;> first | rfl | simp at this
  | tup ts =>
    cases e
    obtain ⟨a, xs, rfl, ha, hl⟩ := h
    refine .inr (.inl ⟨xs, ha, ?_⟩)
    have := hl.len
    cases ts <;> cases xs <;> first | rfl | simp at this
  | _ => cases e
end
end Ev
namespace Ev
open PySem L2
variable [WW]

section
variable (K : PySem.W.Frag) (g : Cfg)
def Post {α β : Type} (P : α → β → Hp → (Addr → Prop) → List Addr → Prop) (Rt : Addr → Prop) (σ : St) (H : Hp) (A : List Addr) (r : R α) (Q : β → Hp → Prop) : Prop := match r with
  | .ok a env => ∀ b H' A' B, Sx K Rt σ H A H' env A' B → P a b H' (Av (A' ++ B) Rt) B → Q b H'
  | .exc c t env => ∀ cls d H' A', Sx K Rt σ H A H' env A' [] → g.xr c t H' (Av (A' ++ []) Rt) cls d → g.W cls d σ H'
  | .no => False
def PO1 : W → V → Hp → (Addr → Prop) → List Addr → Prop := fun w v H av B => Own K H av w v B
def POL : List W → List V → Hp → (Addr → Prop) → List Addr → Prop := fun ws vs H av B => OwnL K H av ws vs B
def PBl : Bool → Bool → Hp → (Addr → Prop) → List Addr → Prop := fun a b _ _ B => b = a ∧ B = []
def POI : Option Int → Option Int → Hp → (Addr → Prop) → List Addr → Prop := fun a b _ _ B => b = a ∧ B = []
def tE (e : E) : TE := fun σ H Q => ∃ Rt env A, Rl K Rt H σ env A ∧ Post K g (PO1 K) Rt σ H A (evE g.G g.C e env) Q
def tT (e : Tt) : TT := fun σ H Q => ∃ Rt env A, Rl K Rt H σ env A ∧ Post K g PBl Rt σ H A (evT g.G g.C e env) Q
def tTs (e : Tts) : TT := fun σ H Q => ∃ Rt env A, Rl K Rt H σ env A ∧ Post K g PBl Rt σ H A (evTs g.G g.C e env) Q
def tEs (e : Es) : TA := fun σ H Q => ∃ Rt env A, Rl K Rt H σ env A ∧ Post K g (POL K) Rt σ H A (evEs g.G g.C e env) Q
def tO (e : Eo) : TO := fun σ H Q => ∃ Rt env A, Rl K Rt H σ env A ∧ Post K g POI Rt σ H A (evO g.G g.C e env) Q
end
theorem PE.imp {X : Cx} {e : Expr} {t t' : TE} (h : PE X e t) (i : ∀ σ H Q, t' σ H Q → t σ H Q) : PE X e t' := ⟨fun pins s σ H Q I q => h.run pins s σ H Q I (i σ H Q q)⟩
theorem PT.imp {X : Cx} {e : Expr} {t t' : TT} (h : PT X e t) (i : ∀ σ H Q, t' σ H Q → t σ H Q) : PT X e t' := ⟨fun pins s σ H Q I q => h.run pins s σ H Q I (i σ H Q q)⟩
theorem PW.imp {X : Cx} {e : Expr} {t t' : TT} (h : PW X e t) (i : ∀ σ H Q, t' σ H Q → t σ H Q) : PW X e t' := ⟨fun wh pins s σ H Q I q => h.run wh pins s σ H Q I (i σ H Q q)⟩
theorem PA.imp {X : Cx} {e : List Expr} {t t' : TA} (h : PA X e t) (i : ∀ σ H Q, t' σ H Q → t σ H Q) : PA X e t' := ⟨fun pos pins s σ H Q I q => h.run pos pins s σ H Q I (i σ H Q q)⟩
section
variable {K : PySem.W.Frag} {g : Cfg} {α β γ δ : Type} {Pa : α → β → Hp → (Addr → Prop) → List Addr → Prop} {Pc : γ → δ → Hp → (Addr → Prop) → List Addr → Prop}
variable {Rt : Addr → Prop} {σ : St} {H H1 H2 : Hp} {A A1 A2 B B1 B2 : List Addr} {env env1 env2 : Env} {r : R α} {f : α → Env → R γ} {Q : δ → Hp → Prop} {Q1 : β → Hp → Prop}
theorem Post.seq (h : Post K g Pc Rt σ H A (r.bind f) Q) (k : ∀ a e1 b H1 A1 B1, Sx K Rt σ H A H1 e1 A1 B1 → Pa a b H1 (Av (A1 ++ B1) Rt) B1 → Post K g Pc Rt σ H A (f a e1) Q → Q1 b H1) : Post K g Pa Rt σ H A r Q1 := by
  cases r with
  | ok a e1 => exact fun b H' A' B' sx p => k a e1 b H' A' B' sx p h
  | exc c t e1 => exact h
  | no => exact h
theorem Post.seq2 (s1 : Sx K Rt σ H A H1 env1 A1 B1) (h : Post K g Pc Rt σ H A (r.bind f) Q)
    (k : ∀ a e2 b H2 A2 B2, Sx K (RtB B1 Rt) σ H1 A1 H2 e2 A2 B2 → Pa a b H2 (Av (A2 ++ B2) (RtB B1 Rt)) B2 → Post K g Pc Rt σ H A (f a e2) Q → Q1 b H2) : Post K g Pa (RtB B1 Rt) σ H1 A1 r Q1 := by
  cases r with
  | ok a e1 => exact fun b H' A' B' sx p => k a e1 b H' A' B' sx p h
  | exc c t e1 =>
    refine fun cls d H' A' sx p => h cls d H' A' (s1.next sx).drop0 (g.xm c t H' _ _ cls d (fun b z => ?_) p)
    rcases z with z | z
    · exact .inl z
    · exact .inr (.inr z)
  | no => exact h
theorem Post.of {o : Option α} (h : Post K g Pa Rt σ H A (R.of o env) Q1) : ∃ a, o = some a ∧ Post K g Pa Rt σ H A (.ok a env) Q1 := by
  cases o with
  | none => exact h.elim
  | some a => exact ⟨a, rfl, h⟩
theorem Sx.made {w : W} {v : V} (s1 : Sx K Rt σ H A H1 env1 A1 B1) (m : Mk K H1 (Av (A1 ++ []) Rt) w v H2 B) : Sx K Rt σ H A H2 env1 A1 B ∧ Own K H2 (Av (A1 ++ B) Rt) w v B := by
  have eq : ∀ b, Av (A1 ++ B) Rt b ↔ (b ∈ B ∨ Av (A1 ++ []) Rt b) := fun b => by
    unfold Av
    rw [List.append_nil, List.mem_append]
    constructor
    · rintro ((z | z) | z)
      · exact .inr (.inl z)
      · exact .inl z
      · exact .inr (.inr z)
    · rintro (z | z | z)
      · exact .inl (.inr z)
      · exact .inl (.inl z)
      · exact .inr z
  have hA : ∀ b ∈ A1, ∃ o, H1 b = some o := fun b hb => by
    obtain ⟨o, q, _⟩ := RE.there _ _ _ s1.re b hb
    exact ⟨o, q⟩
  have nA : ∀ b ∈ B, b ∉ A1 := fun b hb z => by
    obtain ⟨o, q⟩ := hA b z
    rw [m.fresh b hb] at q; cases q
  have s0 := s1.drop0
  refine ⟨⟨s0.go.ext m.ext fun b hb => ?_, ?_, fun b hb z => ?_, fun b z q => ?_, fun b hb q => ?_, ?_, s0.tb.ext m.ext⟩, ?_⟩
  · rcases List.mem_append.mp hb with hb | hb
    · exact s0.go.new b (List.mem_append_left _ hb)
    · by_cases ha : b ∈ A
      · exact .inl ha
      · cases q : H b with
        | none => exact .inr rfl
        | some o =>
          exact absurd (m.fresh b hb) (s0.go.there b (by rw [q]; exact fun z => by cases z) ha)
  · exact List.nodup_append.mpr ⟨(List.nodup_append.mp s0.nd).1, m.nd, fun a ha b hb e => nA b hb (e ▸ ha)⟩
  · rcases List.mem_append.mp hb with hb | hb
    · exact s0.rt b (List.mem_append_left _ hb) z
    · exact s0.th b z (m.fresh b hb)
  · cases e : H1 b with
    | none => exact s0.th b z e
    | some o => rw [m.ext b o e] at q; cases q
  · obtain ⟨o, q', _⟩ := Own.there w v B m.own b hb
    rw [q] at q'; cases q'
  · exact RE.mono env1 σ A1 (fun b o q _ => q.up m.ext) (fun b xs q => Rd.mono q fun o q => m.ext b o q) (fun b z => by
      rcases (eq b).mp z with z | z
      · exact .inr (m.fresh b z)
      · exact .inl z) s0.re
  · exact Own.mono w v B (fun b o q _ => q) (fun _ _ q => q) (fun b z => .inl ((eq b).mp z)) m.own
end

section
variable {X : Cx} {g : Cfg} {pos : Pos} {a b c : Expr} {ia ib ic : E}
theorem snd_int {i : Int} {j : Nat} : PE X (.Constant (.int i) j pos) (tE X.K g (.int i)) :=
  PE.imp pe_int fun σ H Q ⟨Rt, env, A, rl, p⟩ => p (.int i) H A [] rl.sx ⟨rfl, rfl⟩
theorem snd_bl {i : Bool} {j : Nat} : PE X (.Constant (.bool i) j pos) (tE X.K g (.bl i)) :=
  PE.imp pe_bl fun σ H Q ⟨Rt, env, A, rl, p⟩ => p (.bl i) H A [] rl.sx ⟨rfl, rfl⟩
theorem snd_non {j : Nat} : PE X (.Constant .none j pos) (tE X.K g .non) :=
  PE.imp pe_non fun σ H Q ⟨Rt, env, A, rl, p⟩ => p .non H A [] rl.sx ⟨rfl, rfl⟩
theorem snd_str {x : Str} {j : Nat} : PE X (.Constant (.str x) j pos) (tE X.K g (.str x)) :=
  PE.imp pe_str fun σ H Q ⟨Rt, env, A, rl, p⟩ => p (.str x) H A [] rl.sx ⟨rfl, rfl⟩
theorem two_ev {f : T → T → Option W} {i : E} (ev : ∀ env, evE g.G g.C i env = (evE g.G g.C ia env).bind fun x env1 => (evE g.G g.C ib env1).bind fun y env2 => R.of (f x.fz y.fz) env2)
    {σ : St} {H : Hp} {Q : VK} (h : tE X.K g i σ H Q) : tOp (rP2 X.K f) (tE X.K g ia) (tE X.K g ib) σ H Q := by
  obtain ⟨Rt, env, A, rl, p⟩ := h
  rw [ev] at p
  refine ⟨Rt, env, A, rl, Post.seq p fun x e1 v1 H1 A1 B1 s1 o1 p1 => ?_⟩
  refine ⟨RtB B1 Rt, e1, A1, s1.rl, Post.seq2 s1 p1 fun y e2 v2 H2 A2 B2 s2 o2 p2 => ?_⟩
  obtain ⟨w, ew, p3⟩ := Post.of p2
  have s3 := s1.next s2
  have w1 : Own X.K H2 (Av (A2 ++ (B1 ++ B2)) Rt) x v1 B1 := s1.own s2 o1
  have w2 : Own X.K H2 (Av (A2 ++ (B1 ++ B2)) Rt) y v2 B2 := Sx.own2 o2
  refine ⟨Av (A2 ++ []) Rt, x.fz, y.fz, w, ?_, ?_, ew, fun v H' B mk => ?_⟩
  · exact Own.fz (Sx.avs fun b hb => by cases hb) x v1 B1 (fun b hb z => by
      rcases z with z | z
      · rw [List.append_nil] at z; exact s3.out (List.mem_append_left _ hb) z
      · exact s3.rt b (List.mem_append_right _ (List.mem_append_left _ hb)) z) w1
  · exact Own.fz (Sx.avs fun b hb => by cases hb) y v2 B2 (fun b hb z => by
      rcases z with z | z
      · rw [List.append_nil] at z; exact s3.out (List.mem_append_right _ hb) z
      · exact s3.rt b (List.mem_append_right _ (List.mem_append_right _ hb)) z) w2
  · obtain ⟨s4, o4⟩ := s3.made mk
    exact p3 v H' A2 B s4 o4
theorem snd_op {o : Operator} (ha : PE X a (tE X.K g ia)) (hb : PE X b (tE X.K g ib)) : PE X (.BinOp a o b pos) (tE X.K g (.op o ia ib)) :=
  PE.imp (pe_op (op_all o) ha hb) fun σ H Q h => two_ev (fun env => rfl) h
theorem snd_cmp {o : CmpOp} (hu : X.A.units + 64 < cLine) (ha : PE X a (tE X.K g ia)) (hb : PE X b (tE X.K g ib)) (hm : behindInMarks o b = false) : PE X (.Compare a [o] [b] pos) (tE X.K g (.cmp o ia ib)) :=
  PE.imp (pe_cmpR (cmp_all hu o) ha hb hm) fun σ H Q h => two_ev (f := fun a b => (cmpT o a b).map fun b => .val (.bl b)) (fun env => rfl) h
theorem snd_ix (hu : X.A.units + 64 < cLine) (ha : PE X a (tE X.K g ia)) (hb : PE X b (tE X.K g ib)) (hs : PlainIx b) : PE X (.Subscript a b pos) (tE X.K g (.ix ia ib)) :=
  PE.imp (pe_ix (ix_all hu) ha hb hs) fun σ H Q h => two_ev (f := fun a b => (ixT a b).map .val) (fun env => rfl) h
end
end Ev
namespace Ev
open PySem L2
variable [WW]
section
variable {K : PySem.W.Frag} {g : Cfg} {α β γ δ : Type} {Pa : α → β → Hp → (Addr → Prop) → List Addr → Prop} {Pc : γ → δ → Hp → (Addr → Prop) → List Addr → Prop}
variable {Rt : Addr → Prop} {σ : St} {H H1 H2 : Hp} {A A1 A2 B B1 B2 : List Addr} {env env1 env2 : Env} {r : R α} {f : α → Env → R γ} {Q : δ → Hp → Prop} {Q1 : β → Hp → Prop}
theorem rtB_nil : ∀ b, RtB [] Rt b ↔ Rt b := fun b => ⟨fun z => z.elim (fun z => by cases z) id, .inr⟩
theorem Sx.rt0 {Rt' : Addr → Prop} (e : ∀ b, Rt' b ↔ Rt b) (s : Sx K Rt σ H A H1 env1 A1 B1) : Sx K Rt' σ H A H1 env1 A1 B1 := by
  have : Rt' = Rt := funext fun b => propext (e b)
  rw [this]; exact s
theorem Sx.next0 {σ0 : St} (s1 : Sx K Rt σ0 H A H1 env1 A1 []) (s2 : Sx K Rt σ H1 A1 H2 env2 A2 B2) : Sx K Rt σ H A H2 env2 A2 B2 := s1.next (s2.rt0 rtB_nil)
theorem Post.shift (s1 : Sx K Rt σ H A H1 env1 A1 []) (h : Post K g Pa Rt σ H A r Q1) : Post K g Pa Rt σ H1 A1 r Q1 := by
  cases r with
  | ok a e => exact fun b H' A' B' sx p => h b H' A' B' (s1.next0 sx) p
  | exc c t e => exact fun cls d H' A' sx p => h cls d H' A' (s1.next0 sx) p
  | no => exact h
theorem Post.seqE (h : Post K g Pc Rt σ H A (r.bind f) Q) (k : ∀ a e1 b H1 A1 B1, r = .ok a e1 → Sx K Rt σ H A H1 e1 A1 B1 → Pa a b H1 (Av (A1 ++ B1) Rt) B1 → Post K g Pc Rt σ H A (f a e1) Q → Q1 b H1) : Post K g Pa Rt σ H A r Q1 := by
  cases r with
  | ok a e1 => exact fun b H' A' B' sx p => k a e1 b H' A' B' rfl sx p h
  | exc c t e1 => exact h
  | no => exact h
theorem Sx.fzL0 {ws : List W} {vs : List V} (h : Sx K Rt σ H A H1 env1 A1 B) (ow : OwnL K H1 (Av (A1 ++ B) Rt) ws vs B) : FzL K H1 (Av (A1 ++ []) Rt) (fzs ws) vs :=
  OwnL.fz (Sx.avs fun b hb => by cases hb) ws vs B (fun b hb z => by
    rcases z with z | z
    · rw [List.append_nil] at z; exact h.out hb z
    · exact h.rt b (List.mem_append_right _ hb) z) ow
end
theorem fz_bl {K : PySem.W.Frag} {H : Hp} {av : Addr → Prop} {w : W} {v : V} {B : List Addr} {c : Bool} (e : w.fz = .bl c) (ow : Own K H av w v B) : v = .bl c := by
  cases w with
  | val t =>
    have e' : t = .bl c := e
    subst e'
    exact ow.2
  | lst ws => cases (show T.lst (fzs ws) = .bl c from e)
  | nd n ws => cases (show T.nd n (fzs ws) = .bl c from e)
  | set ts => cases (show T.set ts = .bl c from e)
theorem fz_int {K : PySem.W.Frag} {H : Hp} {av : Addr → Prop} {w : W} {v : V} {B : List Addr} {c : Int} (e : w.fz = .int c) (ow : Own K H av w v B) : v = .int c := by
  cases w with
  | val t =>
    have e' : t = .int c := e
    subst e'
    exact ow.2
  | lst ws => cases (show T.lst (fzs ws) = .int c from e)
  | nd n ws => cases (show T.nd n (fzs ws) = .int c from e)
  | set ts => cases (show T.set ts = .int c from e)
section
variable {X : Cx} {g : Cfg} {pos : Pos} {a b c : Expr} {es rest : List Expr} {ia ib ic : E} {ja jb : Tt} {is : Es}
theorem snd_rd {i : Nat} {x : Str} (hN : X.N[i]? = some x) (hv : Vis X.env.scope x) (hd : (x == ("__debug__" : Str)) = false) (hcd : (x == ("__classdict__" : Str)) = false) : PE X (.Name x pos) (tE X.K g (.rd i)) :=
  PE.imp (pe_var hN hv hd hcd) fun σ H Q ⟨Rt, env, A, rl, p⟩ => by
    have p' : Post X.K g (PO1 X.K) Rt σ H A (match env[i]? with | some (some w) => .ok (.val w.fz) (env.set i (some (.val w.fz))) | _ => .no) Q := p
    cases e : env[i]? with
    | none => rw [e] at p'; exact p'.elim
    | some o =>
      cases o with
      | none => rw [e] at p'; exact p'.elim
      | some w =>
        rw [e] at p'
        have hi : i < env.length := (List.getElem?_eq_some_iff.mp e).1
        obtain ⟨A1, B, A2, eA, _, hw, hu⟩ := RE.slot env σ A i rl.re hi
        obtain ⟨v, ev, ow⟩ := hw w e
        subst eA
        obtain ⟨nd, out⟩ := nodup_mid rl.nd
        have sub : ∀ b, Av (A1 ++ A2) Rt b → Av (A1 ++ (B ++ A2)) Rt b := fun b z => z.imp (fun z => by
          rcases List.mem_append.mp z with z | z
          · exact List.mem_append_left _ z
          · exact List.mem_append_right _ (List.mem_append_right _ z)) id
        have fz : Fz X.K H (Av (A1 ++ A2) Rt) w.fz v := Own.fz sub w v B (fun b hb z => by
          rcases z with z | z
          · exact out b hb z
          · exact rl.rt b (List.mem_append_right _ (List.mem_append_left _ hb)) z) ow
        have re := (hu H (Av (A1 ++ A2) Rt) (fun _ _ q _ => q) (fun _ _ q => q) (fun b z => .inl (sub b z))).2 (.val w.fz) v [] ⟨rfl, fz⟩
        rw [set_same ev] at re
        have sx := rl.less nd (fun b hb => by
          rcases List.mem_append.mp hb with z | z
          · exact List.mem_append_left _ z
          · exact List.mem_append_right _ (List.mem_append_right _ z)) re
        refine ⟨v, ev, p' v H (A1 ++ A2) [] sx ⟨rfl, ?_⟩⟩
        rw [List.append_nil]
        exact fz
theorem snd_neg (ha : PE X a (tE X.K g ia)) : PE X (.UnaryOp .USub a pos) (tE X.K g (.neg ia)) :=
  PE.imp (pe_un neg_all ha) fun σ H Q ⟨Rt, env, A, rl, p⟩ => by
    refine ⟨Rt, env, A, rl, Post.seq p fun x e1 v1 H1 A1 B1 s1 o1 p1 => ?_⟩
    cases e : x.fz with
    | int i =>
      simp only [e] at p1
      have fz := s1.fz0 o1
      rw [e] at fz
      refine ⟨_, .int i, .val (.int (-i)), fz, rfl, fun v H' B mk => ?_⟩
      obtain ⟨s4, o4⟩ := s1.made mk
      exact p1 v H' A1 B s4 o4
    | _ => simp only [e] at p1; exact p1.elim
theorem snd_one {op : BoolOp} (ha : PE X a (tE X.K g ia)) : PE X (.BoolOp op [a] pos) (tE X.K g (.one ia)) := PE.imp (pe_one ha) fun σ H Q h => h
theorem snd_and (ha : PE X a (tE X.K g ia)) (hb : PE X (.BoolOp .And (b :: rest) pos) (tE X.K g ib)) : PE X (.BoolOp .And (a :: b :: rest) pos) (tE X.K g (.and ia ib)) :=
  PE.imp (pe_and ha hb) fun σ H Q ⟨Rt, env, A, rl, p⟩ => by
    refine ⟨Rt, env, A, rl, Post.seq p fun x e1 v1 H1 A1 B1 s1 o1 p1 => ?_⟩
    cases e : x.fz with
    | bl c =>
      refine ⟨c, fz_bl e o1, ?_⟩
      cases c with
      | true =>
        simp only [e] at p1
        exact ⟨Rt, e1, A1, s1.drop0.rl0, Post.shift s1.drop0 p1⟩
      | false =>
        simp only [e] at p1
        exact p1 (.bl false) H1 A1 [] s1.drop0 ⟨rfl, rfl⟩
    | _ => simp only [e] at p1; exact p1.elim
theorem snd_not (ha : PE X a (tE X.K g ia)) : PE X (.UnaryOp .Not a pos) (tE X.K g (.not ia)) :=
  PE.imp (pe_not ha) fun σ H Q ⟨Rt, env, A, rl, p⟩ => by
    refine ⟨Rt, env, A, rl, Post.seq p fun x e1 v1 H1 A1 B1 s1 o1 p1 => ?_⟩
    cases e : x.fz with
    | bl c =>
      simp only [e] at p1
      exact ⟨c, fz_bl e o1, p1 (.bl (!c)) H1 A1 [] s1.drop0 ⟨rfl, rfl⟩⟩
    | _ => simp only [e] at p1; exact p1.elim
theorem snd_ife (hc : PT X c (tT X.K g ja)) (ha : PE X a (tE X.K g ia)) (hb : PE X b (tE X.K g ib)) : PE X (.IfExp c a b pos) (tE X.K g (.ife ja ia ib)) :=
  PE.imp (pe_ifExp hc ha hb) fun σ H Q ⟨Rt, env, A, rl, p⟩ => by
    refine ⟨Rt, env, A, rl, Post.seq p fun x e1 v1 H1 A1 B1 s1 o1 p1 => ?_⟩
    obtain ⟨rfl, rfl⟩ := o1
    cases v1 with
    | true => exact ⟨Rt, e1, A1, s1.rl0, Post.shift s1 p1⟩
    | false => exact ⟨Rt, e1, A1, s1.rl0, Post.shift s1 p1⟩
def plainT : Expr → Bool
  | .UnaryOp .Not _ _ => false
  | .BoolOp _ _ _ => false
  | .IfExp _ _ _ _ => false
  | .Compare _ _ _ _ => false
  | _ => true
theorem plainT_is {e : Expr} (h : plainT e = true) (env : PySem.Env) (wh : Sem Value) : isTrue e env wh = (do let v ← wh; standAt e.pos; holding [v] (truthy v)) := by
  cases e with
  | UnaryOp op x p => cases op <;> first | rfl | cases h
  | BoolOp _ _ _ => cases h
  | IfExp _ _ _ _ => cases h
  | Compare _ _ _ _ => cases h
  | _ => rfl
theorem snt_v (ha : PE X a (tE X.K g ia)) (h : plainT a = true) : PT X a (tT X.K g (.v ia)) :=
  PT.imp (pt_truth ha fun wh => plainT_is h _ wh) fun σ H Q ⟨Rt, env, A, rl, p⟩ => by
    refine ⟨Rt, env, A, rl, Post.seq p fun x e1 v1 H1 A1 B1 s1 o1 p1 => ?_⟩
    obtain ⟨k, ek, p2⟩ := Post.of p1
    exact ⟨k, tru_all (s1.fz0 o1) ek, p2 k H1 A1 [] s1.drop0 ⟨rfl, rfl⟩⟩
theorem bind_ok {α β : Type} {r : R α} {f : α → Env → R β} {b : β} {e : Env} (h : r.bind f = .ok b e) : ∃ a e1, r = .ok a e1 ∧ f a e1 = .ok b e := by
  cases r with
  | ok a e1 => exact ⟨a, e1, rfl, h⟩
  | exc c t e1 => cases h
  | no => cases h
theorem chain_ev {o o' : CmpOp} {σ : St} {H : Hp} {Q : VK} (h : tE X.K g (.chn o o' ia ib ic) σ H Q) :
    tChain (rP2 X.K fun a b => (cmpT o a b).map fun b => .val (.bl b)) (rP2 X.K fun a b => (cmpT o' a b).map fun b => .val (.bl b)) (tE X.K g ia) (tE X.K g ib) (tE X.K g ic) σ H Q := by
  obtain ⟨Rt, env, A, rl, p⟩ := h
  refine ⟨Rt, env, A, rl, Post.seq p fun x e1 v1 H1 A1 B1 s1 o1 p1 => ?_⟩
  refine ⟨RtB B1 Rt, e1, A1, s1.rl, Post.seq2 s1 p1 fun y e2 v2 H2 A2 B2 s2 o2 p2 => ?_⟩
  have s3 := s1.next s2
  have w1 : Own X.K H2 (Av (A2 ++ (B1 ++ B2)) Rt) x v1 B1 := s1.own s2 o1
  have w2 : Own X.K H2 (Av (A2 ++ (B1 ++ B2)) Rt) y v2 B2 := Sx.own2 o2
  have f1 : Fz X.K H2 (Av (A2 ++ []) Rt) x.fz v1 := Own.fz (Sx.avs fun b hb => by cases hb) x v1 B1 (fun b hb z => by
      rcases z with z | z
      · rw [List.append_nil] at z; exact s3.out (List.mem_append_left _ hb) z
      · exact s3.rt b (List.mem_append_right _ (List.mem_append_left _ hb)) z) w1
  have f2 : Fz X.K H2 (Av (A2 ++ []) Rt) y.fz v2 := Own.fz (Sx.avs fun b hb => by cases hb) y v2 B2 (fun b hb z => by
      rcases z with z | z
      · rw [List.append_nil] at z; exact s3.out (List.mem_append_right _ hb) z
      · exact s3.rt b (List.mem_append_right _ (List.mem_append_right _ hb)) z) w2
  cases ec : cmpT o x.fz y.fz with
  | none => simp only [ec] at p2; exact p2.elim
  | some k =>
    refine ⟨Av (A2 ++ []) Rt, x.fz, y.fz, .val (.bl k), f1, f2, congrArg (Option.map fun b => W.val (T.bl b)) ec, fun v H' B mk => ?_⟩
    obtain ⟨s4, o4⟩ := s3.made mk
    refine ⟨k, o4.2, ?_⟩
    cases k with
    | false =>
      simp only [ec] at p2
      exact p2 (.bl false) H' A2 [] s4.drop0 ⟨rfl, rfl⟩
    | true =>
      simp only [ec] at p2
      have s5 := s4.drop0
      have f3 : Fz X.K H' (Av (A2 ++ []) Rt) y.fz v2 := by
        exact Fz.mono (fun b o q _ => q.up mk.ext) (fun b xs q => Rd.mono q fun o q => mk.ext b o q) (fun b z => .inl z) y.fz v2 f2
      refine ⟨Rt, e2, A2, s5.rl0, Post.seq (Post.shift s5 p2) fun z e3 v3 H3 A3 B3 s6 o6 p6 => ?_⟩
      obtain ⟨w, ew, p7⟩ := Post.of p6
      refine ⟨Av (A3 ++ []) Rt, y.fz, z.fz, w, ?_, s6.fz0 o6, ew, fun v H4 B4 mk4 => ?_⟩
      · refine Fz.mono (fun b o q c => s6.go.keep b o q fun z => c (.inl (List.mem_append_left _ z))) s6.go.tups (fun b z => ?_) y.fz v2 f3
        rcases z with z | z
        · rw [List.append_nil] at z
          exact (s6.go.new b (List.mem_append_left _ z)).imp (fun z => .inl (List.mem_append_left _ z)) id
        · exact .inl (.inr z)
      · obtain ⟨s7, o7⟩ := s6.made mk4
        exact p7 v H4 A3 B4 s7 o7
theorem snd_chn {o o' : CmpOp} (hu : X.A.units + 64 < cLine) (ha : PE X a (tE X.K g ia)) (hb : PE X b (tE X.K g ib)) (hc : PE X c (tE X.K g ic)) (hm : lastMarks [o, o'] [b, c] = false) : PE X (.Compare a [o, o'] [b, c] pos) (tE X.K g (.chn o o' ia ib ic)) :=
  PE.imp (pe_chain (cmp_all hu o) (cmp_all hu o') ha hb hc hm) fun σ H Q h => chain_ev h
theorem snw_one {op : BoolOp} (ha : PT X a (tT X.K g ja)) : PW X (.BoolOp op [a] pos) (tT X.K g (.one ja)) := by
  cases op with
  | And => exact PW.imp (pw_and1 ha) fun σ H Q h => h
  | Or => exact PW.imp (pw_or1 ha) fun σ H Q h => h
theorem snw_or (ha : PT X a (tT X.K g ja)) (hb : PW X (.BoolOp .Or (b :: rest) pos) (tT X.K g jb)) : PW X (.BoolOp .Or (a :: b :: rest) pos) (tT X.K g (.or ja jb)) :=
  PW.imp (pw_or ha hb) fun σ H Q ⟨Rt, env, A, rl, p⟩ => by
    refine ⟨Rt, env, A, rl, Post.seq p fun x e1 v1 H1 A1 B1 s1 o1 p1 => ?_⟩
    obtain ⟨rfl, rfl⟩ := o1
    cases v1 with
    | false => exact ⟨Rt, e1, A1, s1.rl0, Post.shift s1 p1⟩
    | true => exact p1 true H1 A1 [] s1 ⟨rfl, rfl⟩
theorem snt_not (ha : PT X a (tT X.K g ja)) : PT X (.UnaryOp .Not a pos) (tT X.K g (.not ja)) :=
  PT.imp (pt_not ha) fun σ H Q ⟨Rt, env, A, rl, p⟩ => by
    refine ⟨Rt, env, A, rl, Post.seq p fun x e1 v1 H1 A1 B1 s1 o1 p1 => ?_⟩
    obtain ⟨rfl, rfl⟩ := o1
    exact p1 (!v1) H1 A1 [] s1 ⟨rfl, rfl⟩
theorem pa_nil' : PA X [] (tEs X.K g .nil) := PA.imp pa_nil fun σ H Q ⟨Rt, env, A, rl, p⟩ => p [] H A [] rl.sx ⟨rfl, rfl⟩
theorem snd_cons {e : Expr} (he : PE X e (tE X.K g ia)) (hs : PA X es (tEs X.K g is)) (hst : starEach (e :: es) X.env = (false, eval e X.env) :: starEach es X.env) : PA X (e :: es) (tEs X.K g (.cons ia is)) :=
  PA.imp (pa_cons he hs hst) fun σ H Q ⟨Rt, env, A, rl, p⟩ => by
    refine ⟨Rt, env, A, rl, Post.seq p fun x e1 v1 H1 A1 B1 s1 o1 p1 => ?_⟩
    refine ⟨RtB B1 Rt, e1, A1, s1.rl, Post.seq2 s1 p1 fun ws e2 vs H2 A2 B2 s2 o2 p2 => ?_⟩
    exact p2 (v1 :: vs) H2 A2 (B1 ++ B2) (s1.next s2) ⟨v1, vs, B1, B2, rfl, rfl, s1.own s2 o1, Sx.ownL2 o2⟩
theorem OwnL.len {K : PySem.W.Frag} {H : Hp} {av : Addr → Prop} : ∀ (ws : List W) (vs : List V) (B : List Addr), OwnL K H av ws vs B → ws.length = vs.length
  | [], vs, B, h => by rw [h.1]; rfl
  | w :: ws, vs, B, h => by
    obtain ⟨v, r, B1, B2, rfl, _, _, h2⟩ := h
    rw [List.length_cons, List.length_cons, OwnL.len ws r B2 h2]
theorem snd_tup {k : Nat} (hs : PA X es (tEs X.K g is)) : PE X (.Tuple es k pos) (tE X.K g (.tup is)) :=
  PE.imp (pe_tup hs) fun σ H Q ⟨Rt, env, A, rl, p⟩ => by
    refine ⟨Rt, env, A, rl, Post.seq p fun ws e1 vs H1 A1 B1 s1 o1 p1 => ?_⟩
    have p2 : Post X.K g (PO1 X.K) Rt σ H A (if decide (ws.length ≤ 16777216) = true then .ok (.val (.tup (fzs ws))) e1 else .no) Q := p1
    by_cases c : decide (ws.length ≤ 16777216) = true
    · rw [if_pos c] at p2
      refine ⟨by rw [sizeLine_eq, ← OwnL.len ws vs B1 o1]; exact of_decide_eq_true c, fun q hq => ?_⟩
      obtain ⟨s4, o4⟩ := s1.made (Mk.tup hq (s1.fzL0 o1))
      exact p2 _ _ A1 [] s4 o4
    · rw [if_neg c] at p2; exact p2.elim
theorem snd_lst (hs : PA X es (tEs X.K g is)) : PE X (.List es pos) (tE X.K g (.lst is)) :=
  PE.imp (pe_lst hs) fun σ H Q ⟨Rt, env, A, rl, p⟩ => by
    refine ⟨Rt, env, A, rl, Post.seq p fun ws e1 vs H1 A1 B1 s1 o1 p1 => ?_⟩
    have p2 : Post X.K g (PO1 X.K) Rt σ H A (if decide (ws.length ≤ 16777216) = true then .ok (.lst ws) e1 else .no) Q := p1
    by_cases c : decide (ws.length ≤ 16777216) = true
    · rw [if_pos c] at p2
      refine ⟨by rw [sizeLine_eq, ← OwnL.len ws vs B1 o1]; exact of_decide_eq_true c, fun q hq => ?_⟩
      exact p2 (.ref q) _ A1 (q :: B1) (s1.new hq) ⟨q, vs, B1, rfl, rfl, upd_same, OwnL.newp hq o1⟩
    · rw [if_neg c] at p2; exact p2.elim
theorem snd_callv {x : Str} {id : String} {p0 : Pos} {f : List T → Option W} {i : E} {e : Expr} (hc : CallR X (.builtin id) (rPL X.K f)) (hg : Gl X x) (hm : X.mg x = none) (hv : bootBuiltins x = some (.builtin id)) (hs : PA X (e :: es) (tEs X.K g is))
    (hn : x ≠ "__name__") (hdb : (x == ("__debug__" : Str)) = false) (he : starEach (e :: es) X.env = (false, eval e X.env) :: starEach es X.env) (hpl : (backTo pos (starEach es X.env)).any (·.1) = false)
    (ev : ∀ env, evE g.G g.C i env = (evEs g.G g.C is env).bind fun ws env1 => R.of (f (fzs ws)) env1) : PE X (.Call (.Name x p0) (e :: es) [] pos) (tE X.K g i) :=
  PE.imp (pe_callB hc hg hm hv hs hn hdb he hpl) fun σ H Q ⟨Rt, env, A, rl, p⟩ => by
    rw [ev] at p
    refine ⟨Rt, env, A, rl, Post.seq p fun ws e1 vs H1 A1 B1 s1 o1 p1 => ?_⟩
    obtain ⟨w, ew, p2⟩ := Post.of p1
    refine ⟨_, fzs ws, w, s1.fzL0 o1, ew, fun v H' B mk => ?_⟩
    obtain ⟨s4, o4⟩ := s1.made mk
    exact p2 v H' A1 B s4 o4
theorem snd_callt {x : Str} {id : String} {p0 : Pos} {f : List T → Option W} {i : E} {e : Expr} (hc : CallR X (.type id) (rPL X.K f)) (hg : Gl X x) (hm : X.mg x = none) (hv : bootBuiltins x = some (.type id)) (hs : PA X (e :: es) (tEs X.K g is))
    (hn : x ≠ "__name__") (hdb : (x == ("__debug__" : Str)) = false) (he : starEach (e :: es) X.env = (false, eval e X.env) :: starEach es X.env) (hpl : (backTo pos (starEach es X.env)).any (·.1) = false)
    (ev : ∀ env, evE g.G g.C i env = (evEs g.G g.C is env).bind fun ws env1 => R.of (f (fzs ws)) env1) : PE X (.Call (.Name x p0) (e :: es) [] pos) (tE X.K g i) :=
  PE.imp (pe_callTy hc hg hm hv hs hn hdb he hpl) fun σ H Q ⟨Rt, env, A, rl, p⟩ => by
    rw [ev] at p
    refine ⟨Rt, env, A, rl, Post.seq p fun ws e1 vs H1 A1 B1 s1 o1 p1 => ?_⟩
    obtain ⟨w, ew, p2⟩ := Post.of p1
    refine ⟨_, fzs ws, w, s1.fzL0 o1, ew, fun v H' B mk => ?_⟩
    obtain ⟨s4, o4⟩ := s1.made mk
    exact p2 v H' A1 B s4 o4
end
end Ev
namespace Ev
open PySem L2
variable [WW]

structure Jt (K : PySem.W.Frag) (J : L2.It) (ts : List T) (P : Hp → (Addr → Prop) → Prop) : Prop where
  mono : ∀ (H H' : Hp) (av av' : Addr → Prop), P H av → (∀ b o, KN H b o → ¬ av b → KN H' b o) → (∀ b xs, Rd H b (.tup xs) → Rd H' b (.tup xs)) → (∀ b, av' b → av b ∨ H b = none) → P H' av'
  stop : ∀ (H : Hp) av (i : Nat), P H av → ts.length ≤ i → J.stop i H
  go : ∀ (H : Hp) av (i : Nat) t, P H av → ts[i]? = some t → J.go i H
  yld : ∀ (H : Hp) av (i : Nat) t x H', P H av → ts[i]? = some t → J.yld i H x H' → (∀ b o, H b = some o → H' b = some o) ∧ Fz K H' av t x
section
variable {K : PySem.W.Frag}
theorem jt_list {a : Addr} {ts : List T} : Jt K (Itl K a) ts fun H av => Fz K H av (.lst ts) (.ref a) where
  mono := fun H H' av av' p k t h => Fz.mono k t h _ _ p
  stop := fun H av i p hi => by
    obtain ⟨a', xs, e, hs, _, hl⟩ := p
    cases e
    exact ⟨xs, .inl hs, by rw [← hl.len]; exact hi⟩
  go := fun H av i t p hi => by
    obtain ⟨a', xs, e, hs, _, hl⟩ := p
    cases e
    obtain ⟨v, hv, _⟩ := hl.get hi
    exact ⟨xs, v, .inl hs, hv⟩
  yld := fun H av i t x H' p hi y => by
    obtain ⟨a', xs, e, hs, _, hl⟩ := p
    cases e
    obtain ⟨e1, y⟩ := y
    subst e1
    obtain ⟨v, hv, hf⟩ := hl.get hi
    have := y xs (.inl hs)
    rw [hv] at this
    cases this
    exact ⟨fun _ _ q => q, hf⟩
theorem jt_tup {a : Addr} {ts : List T} : Jt K (Itt K a) ts fun H av => Fz K H av (.tup ts) (.ref a) where
  mono := fun H H' av av' p k t h => Fz.mono k t h _ _ p
  stop := fun H av i p hi => by
    obtain ⟨a', xs, e, hs, hl⟩ := p
    cases e
    exact ⟨xs, hs, by rw [← hl.len]; exact hi⟩
  go := fun H av i t p hi => by
    obtain ⟨a', xs, e, hs, hl⟩ := p
    cases e
    obtain ⟨v, hv, _⟩ := hl.get hi
    exact ⟨xs, v, hs, hv⟩
  yld := fun H av i t x H' p hi y => by
    obtain ⟨a', xs, e, hs, hl⟩ := p
    cases e
    obtain ⟨e1, y⟩ := y
    subst e1
    obtain ⟨v, hv, hf⟩ := hl.get hi
    have := y xs hs
    rw [hv] at this
    cases this
    exact ⟨fun _ _ q => q, hf⟩
theorem rngI_len (a : Int) : ∀ n, (rngI a n).length = n := by
  intro n
  induction n generalizing a with
  | zero => rfl
  | succ n ih => show (rngI (a + 1) n).length + 1 = _; rw [ih]
theorem rngI_get : ∀ (n : Nat) (a : Int) (i : Nat), i < n → (rngI a n)[i]? = some (a + i)
  | 0, _, _, h => absurd h (Nat.not_lt_zero _)
  | n + 1, a, 0, _ => by show some a = _; rw [Int.natCast_zero, Int.add_zero]
  | n + 1, a, i + 1, h => by
    show (rngI (a + 1) n)[i]? = _
    rw [rngI_get n (a + 1) i (by omega)]
    congr 1
    omega
theorem jt_rng {lo : Int} {n : Nat} : Jt K (Itr lo n) ((rngI lo n).map T.int) fun _ _ => True where
  mono := fun _ _ _ _ _ _ _ _ => trivial
  stop := fun H av i _ hi => by rw [List.length_map, rngI_len] at hi; exact hi
  go := fun H av i t _ hi => by
    have := (List.getElem?_eq_some_iff.mp hi).1
    rw [List.length_map, rngI_len] at this
    exact this
  yld := fun H av i t x H' _ hi y => by
    obtain ⟨e1, e2⟩ := y
    subst e1
    have hl := (List.getElem?_eq_some_iff.mp hi).1
    rw [List.length_map, rngI_len] at hl
    rw [List.getElem?_map, rngI_get n lo i hl] at hi
    cases hi
    exact ⟨fun _ _ q => q, e2⟩
end
section
variable (K : PySem.W.Frag) (g : Cfg)
def PJ : List T → L2.It → Hp → (Addr → Prop) → List Addr → Prop := fun ts J H av B => B = [] ∧ ∃ P, Jt K J ts P ∧ P H av
def tI (i : Ev.It) : TI := fun σ H Q => ∃ Rt env A, Rl K Rt H σ env A ∧ Post K g (PJ K) Rt σ H A (evI g.G g.C i env) Q
end
theorem PI.imp {X : Cx} {tg e : Expr} {t t' : TI} (h : PI X tg e t) (i : ∀ σ H Q, t' σ H Q → t σ H Q) : PI X tg e t' := ⟨fun pins s σ H Q I q => h.run pins s σ H Q I (i σ H Q q)⟩
theorem okR_of {n : Int} (h : okR n = true) : -8388608 ≤ n ∧ n ≤ 8388608 := by
  unfold okR at h
  rw [Bool.and_eq_true] at h
  exact ⟨of_decide_eq_true h.1, of_decide_eq_true h.2⟩
section
variable {X : Cx} {g : Cfg} {tg a b : Expr} {ia ib : E} {pos p0 : Pos}
def iSeq (K : PySem.W.Frag) (tl : TE) : TI := fun σ H R => tl σ H fun x H1 => ∃ a, x = .ref a ∧ ((∃ xs, SqL K H1 a xs ∧ R (Itl K a) H1) ∨ ∃ xs, SqT K H1 a xs ∧ R (Itt K a) H1)
theorem pi_seq {l : Expr} {tl : TE} (hl : PE X l tl) : PI X tg l (iSeq X.K tl) := by
  constructor
  intro pins s σ H R I h
  refine thn (hl.run pins s σ H _ I h) fun v s1 q0 => ?_
  obtain ⟨x, H1, I1, r1, a, e, q⟩ := q0
  subst e
  cases r1
  have me : ∀ b ∈ [s1.heap.objs.size], FpOk X pins H1 b := fun b hb => by
    rw [List.mem_singleton.mp hb]
    exact I1.fpOk (Nat.le_refl _) (I1.hok.fresh (Nat.le_refl _))
  rcases q with ⟨xs, hq, q⟩ | ⟨xs, hq, q⟩
  · obtain ⟨its, rv, pl, hz⟩ := I1.list hq
    refine wpAny_pyIter_list pl.isList ⟨s1.heap.objs.size, [s1.heap.objs.size], _, _, H1, rfl, ?_, turn_list a _, ?_, me, q⟩
    · exact I1.kept (t' := s1.toks) fun b o e => Heap.get?_push_of_some _ e
    · exact ⟨_, Heap.get?_push_size _ rfl, rfl, rfl⟩
  · obtain ⟨its, rv, pl, hz⟩ := I1.tuple hq
    refine wpAny_pyIter_tuple (show s1.heap.IsTuple a its.toArray from pl) ⟨s1.heap.objs.size, [s1.heap.objs.size], _, _, H1, rfl, ?_, turn_tuple a _, ?_, me, q⟩
    · exact I1.kept (t' := s1.toks) fun b o e => Heap.get?_push_of_some _ e
    · exact ⟨_, Heap.get?_push_size _ rfl, rfl, rfl⟩
theorem sni_e (ha : PE X a (tE X.K g ia)) : PI X tg a (tI X.K g (.e ia)) :=
  PI.imp (pi_seq ha) fun σ H Rr ⟨Rt, env, A, rl, p⟩ => by
    refine ⟨Rt, env, A, rl, Post.seq p fun x e1 v1 H1 A1 B1 s1 o1 p1 => ?_⟩
    have fz := s1.fz0 o1
    cases e : x.fz with
    | lst ts =>
      simp only [e] at p1
      rw [e] at fz
      obtain ⟨a', xs, e', hs, na, hl⟩ := id fz
      refine ⟨a', e', .inl ⟨xs, .inl hs, p1 (Itl X.K a') H1 A1 [] s1.drop0 ⟨rfl, _, jt_list, ?_⟩⟩⟩
      rw [← e']; exact fz
    | tup ts =>
      simp only [e] at p1
      rw [e] at fz
      obtain ⟨a', xs, e', hs, hl⟩ := id fz
      refine ⟨a', e', .inr ⟨xs, hs, p1 (Itt X.K a') H1 A1 [] s1.drop0 ⟨rfl, _, jt_tup, ?_⟩⟩⟩
      rw [← e']; exact fz
    | _ => simp only [e] at p1; exact p1.elim
theorem sni_rng1 (hg : Gl X "range") (hm : X.mg "range" = none) (ha : PE X a (tE X.K g ia)) (hs : starEach [a] X.env = [(false, eval a X.env)]) : PI X tg (.Call (.Name "range" p0) [a] [] pos) (tI X.K g (.rng ia .no)) :=
  PI.imp (pi_range1 (ta := tCons (tE X.K g ia) tNil) hg hm (pa_cons ha pa_nil hs) hs) fun σ H Rr ⟨Rt, env, A, rl, p⟩ => by
    refine ⟨Rt, env, A, rl, Post.seq p fun x e1 v1 H1 A1 B1 s1 o1 p1 => ?_⟩
    have p2 : Post X.K g (PJ X.K) Rt σ H A (R.of ((rngT x.fz none).map fun is => is.map T.int) e1) Rr := p1
    obtain ⟨ts, et, p3⟩ := Post.of p2
    obtain ⟨is, ei, e2⟩ := Option.map_eq_some_iff.mp et
    subst e2
    cases e : x.fz with
    | int n =>
      rw [e] at ei
      have ei' : (if okR n = true then some (rngI 0 n.toNat) else none) = some is := ei
      by_cases c : okR n = true
      · rw [if_pos c] at ei'
        cases ei'
        have c' := okR_of c
        exact ⟨n, by rw [fz_int e o1], by omega, by omega, p3 (Itr 0 n.toNat) H1 A1 [] s1.drop0 ⟨rfl, _, jt_rng, trivial⟩⟩
      · rw [if_neg c] at ei'; cases ei'
    | _ => rw [e] at ei; cases ei
theorem fzo_int {w : W} {i : Int} {K : PySem.W.Frag} {H : Hp} {av : Addr → Prop} {v : V} {B : List Addr} (e : w.fz = .int i) (ow : Own K H av w v B) : B = [] := by
  cases w with
  | val t => exact ow.1
  | lst ws => cases (show T.lst (fzs ws) = .int i from e)
  | nd n ws => cases (show T.nd n (fzs ws) = .int i from e)
  | set ts => cases (show T.set ts = .int i from e)
theorem sni_rng2 (hg : Gl X "range") (hm : X.mg "range" = none) (ha : PE X a (tE X.K g ia)) (hb : PE X b (tE X.K g ib)) (hs : starEach [a, b] X.env = [(false, eval a X.env), (false, eval b X.env)]) (hs2 : starEach [b] X.env = [(false, eval b X.env)]) :
    PI X tg (.Call (.Name "range" p0) [a, b] [] pos) (tI X.K g (.rng ia (.so ib))) :=
  PI.imp (pi_range2 (ta := tCons (tE X.K g ia) (tCons (tE X.K g ib) tNil)) hg hm (pa_cons ha (pa_cons hb pa_nil hs2) (by rw [hs, hs2])) hs hs2) fun σ H Rr ⟨Rt, env, A, rl, p⟩ => by
    refine ⟨Rt, env, A, rl, Post.seq p fun x e1 v1 H1 A1 B1 s1 o1 p1 => ?_⟩
    have p1' : Post X.K g (PJ X.K) Rt σ H A ((evE g.G g.C ib e1).bind fun w env1 => (match w.fz with | .int i => R.ok (some i) env1 | _ => .no).bind fun (y : Option Int) env2 => R.of ((rngT x.fz y).map fun (is : List Int) => is.map T.int) env2) Rr := by
      have : Post X.K g (PJ X.K) Rt σ H A (((evE g.G g.C ib e1).bind fun w env1 => (match w.fz with | .int i => R.ok (some i) env1 | _ => .no)).bind fun (y : Option Int) env2 => R.of ((rngT x.fz y).map fun (is : List Int) => is.map T.int) env2) Rr := p1
      cases er : evE g.G g.C ib e1 with
      | ok w e2 => rw [er] at this; exact this
      | exc c t e2 => rw [er] at this; exact this
      | no => rw [er] at this; exact this
    refine ⟨RtB B1 Rt, e1, A1, s1.rl, Post.seq2 s1 p1' fun y e2 v2 H2 A2 B2 s2 o2 p2 => ?_⟩
    have s3 := s1.next s2
    have w1 := s1.own s2 o1
    cases ey : y.fz with
    | int j =>
      simp only [ey] at p2
      have p2' : Post X.K g (PJ X.K) Rt σ H A (R.of ((rngT x.fz (some j)).map fun is => is.map T.int) e2) Rr := p2
      obtain ⟨ts, et, p3⟩ := Post.of p2'
      obtain ⟨is, ei, e4⟩ := Option.map_eq_some_iff.mp et
      subst e4
      cases e : x.fz with
      | int n =>
        rw [e] at ei
        have ei' : (if (okR n && okR j) = true then some (rngI n (j - n).toNat) else none) = some is := ei
        by_cases c : (okR n && okR j) = true
        · rw [if_pos c] at ei'
          cases ei'
          rw [Bool.and_eq_true] at c
          have c1 := okR_of c.1
          have c2 := okR_of c.2
          exact ⟨n, j, by rw [fz_int e o1, fz_int ey o2], ⟨by omega, by omega, by omega, by omega⟩, p3 (Itr n (j - n).toNat) H2 A2 [] s3.drop0 ⟨rfl, _, jt_rng, trivial⟩⟩
        · rw [if_neg c] at ei'; cases ei'
      | _ => rw [e] at ei; cases ei
    | _ => simp only [ey] at p2; exact p2.elim
end
end Ev
namespace Ev
open PySem L2
variable [WW]
section
variable {K : PySem.W.Frag} {Rt : Addr → Prop} {H H1 H2 H' : Hp} {σ σ' : St} {env env1 env2 : Env} {A A1 A2 B B' B1 B2 : List Addr} {p D : Addr} {o : HO} {w : W} {ws : List W} {v y : V} {vs : List V} {t : T} {ts : List T} {av : Addr → Prop}
def Bare (env : Env) (i : Nat) : Prop := env[i]? = some none ∨ ∃ t, env[i]? = some (some (.val t))
theorem hidOk_of {own : List Nat} (h : hidOk env own = true) : ∀ i ∈ own, Bare env i := fun i hi => by
  have h := List.all_eq_true.mp h i hi
  unfold Bare
  cases e : env[i]? with
  | none => simp [e] at h
  | some x =>
    cases x with
    | none => exact .inl rfl
    | some w =>
      cases w with
      | val t => exact .inr ⟨t, rfl⟩
      | lst ws => simp [e] at h
      | nd n ws => simp [e] at h
      | set ws => simp [e] at h
theorem Bare.lt {i : Nat} (h : Bare env i) : i < env.length := by
  rcases h with h | ⟨t, h⟩ <;> exact (List.getElem?_eq_some_iff.mp h).1
theorem RE.bare {i : Nat} (h : RE K H av env σ A) (b : Bare env i) : (∀ s, RE K H av (env.set i none) (σ.set i s) A) ∧ ∀ t v, Fz K H av t v → RE K H av (env.set i (some (.val t))) (σ.set i (some v)) A := by
  obtain ⟨A1, B, A2, eA, hn, hw, hu⟩ := RE.slot env σ A i h b.lt
  have eB : B = [] := by
    rcases b with b | ⟨t, b⟩
    · exact hn b
    · obtain ⟨v, _, ow⟩ := hw _ b
      exact ow.1
  subst eB
  have eA' : A = A1 ++ A2 := by rw [eA]; rfl
  obtain ⟨q1, q2⟩ := hu H av (fun _ _ q _ => q) (fun _ _ q => q) fun b z => .inl z
  rw [eA']
  exact ⟨q1, fun t v f => q2 (.val t) v [] ⟨rfl, f⟩⟩
theorem wipeE_bare {i : Nat} : ∀ (own : List Nat), (∀ j ∈ own, Bare env j) → Bare env i → Bare (wipeE env own) i
  | [], _, h => h
  | j :: r, ho, h => by
    have ih := wipeE_bare (i := i) r (fun k hk => ho k (List.mem_cons_of_mem _ hk)) h
    unfold wipeE
    by_cases e : j = i
    · subst e
      exact .inl (List.getElem?_set_self ih.lt)
    · unfold Bare
      rw [List.getElem?_set_ne e]
      exact ih
theorem RE.wipe : ∀ (own : List Nat), (∀ j ∈ own, Bare env j) → RE K H av env σ A → RE K H av (wipeE env own) (L2.wipe σ own) A
  | [], _, h => h
  | j :: r, ho, h => by
    have ih := RE.wipe r (fun k hk => ho k (List.mem_cons_of_mem _ hk)) h
    exact (RE.bare ih (wipeE_bare r (fun k hk => ho k (List.mem_cons_of_mem _ hk)) (ho j List.mem_cons_self))).1 none
theorem wipeE_none : ∀ (own : List Nat) (i : Nat), i ∈ own → i < env.length → (wipeE env own)[i]? = some none
  | j :: r, i, hi, hl => by
    unfold wipeE
    have len : ∀ r : List Nat, (wipeE env r).length = env.length := fun r => by
      induction r with
      | nil => rfl
      | cons a r ih => unfold wipeE; rw [List.length_set, ih]
    by_cases e : j = i
    · subst e
      exact List.getElem?_set_self (by rw [len]; exact hl)
    · rw [List.getElem?_set_ne e]
      rcases List.mem_cons.mp hi with z | z
      · exact absurd z.symm e
      · exact wipeE_none r i z hl
def backS (old σ : St) : List Nat → St
  | [] => σ
  | i :: r => (backS old σ r).set i ((old[i]?).getD none)
theorem backS_len (old σ : St) : ∀ own : List Nat, (backS old σ own).length = σ.length
  | [] => rfl
  | i :: r => by unfold backS; rw [List.length_set, backS_len old σ r]
theorem backS_get (old σ : St) (j : Nat) (hj : j < σ.length) (hl : old.length = σ.length) : ∀ own : List Nat, (backS old σ own)[j]? = if j ∈ own then old[j]? else σ[j]?
  | [] => by rw [if_neg (by simp)]; rfl
  | i :: r => by
    unfold backS
    by_cases e : i = j
    · subst e
      rw [List.getElem?_set_self (by rw [backS_len]; exact hj), if_pos List.mem_cons_self]
      rw [List.getElem?_eq_getElem (by omega)]
      rfl
    · rw [List.getElem?_set_ne e, backS_get old σ j hj hl r]
      by_cases c : j ∈ r
      · rw [if_pos c, if_pos (List.mem_cons_of_mem _ c)]
      · rw [if_neg c, if_neg (fun z => (List.mem_cons.mp z).elim (fun z => e z.symm) c)]
theorem backS_wipe (own : List Nat) : backS σ (L2.wipe σ own) own = σ := by
  have hl : σ.length = (L2.wipe σ own).length := (wipe_length σ own).symm
  refine List.ext_getElem? fun j => ?_
  by_cases hj : j < (L2.wipe σ own).length
  · rw [backS_get σ _ j hj hl own]
    by_cases c : j ∈ own
    · rw [if_pos c]
    · rw [if_neg c, wipe_out c]
  · rw [List.getElem?_eq_none (by rw [backS_len]; omega), List.getElem?_eq_none (by omega)]
theorem RE.back {old : Env} {sold : St} : ∀ (own : List Nat), (∀ j ∈ own, Bare env j) → (∀ j ∈ own, old[j]? = some none ∨ ∃ t v, old[j]? = some (some (.val t)) ∧ sold[j]? = some (some v) ∧ Fz K H av t v) → RE K H av env σ A →
    RE K H av (backE old env own) (backS sold σ own) A ∧ ∀ i, Bare env i → Bare (backE old env own) i
  | [], _, _, h => ⟨h, fun _ b => b⟩
  | j :: r, hb, ho, h => by
    obtain ⟨ih, ib⟩ := RE.back (sold := sold) (old := old) r (fun k hk => hb k (List.mem_cons_of_mem _ hk)) (fun k hk => ho k (List.mem_cons_of_mem _ hk)) h
    have bj := ib j (hb j List.mem_cons_self)
    have q := RE.bare ih bj
    unfold backE backS
    rcases ho j List.mem_cons_self with e | ⟨t, v, e, es, f⟩
    · rw [e]
      refine ⟨q.1 _, fun i b => ?_⟩
      by_cases c : j = i
      · subst c
        exact .inl (List.getElem?_set_self bj.lt)
      · unfold Bare
        rw [List.getElem?_set_ne c]
        exact ib i b
    · rw [e, es]
      refine ⟨q.2 t v f, fun i b => ?_⟩
      by_cases c : j = i
      · subst c
        exact .inr ⟨t, List.getElem?_set_self bj.lt⟩
      · unfold Bare
        rw [List.getElem?_set_ne c]
        exact ib i b
theorem Sx.wr (h : Sx K Rt σ H A H1 env1 A1 B) (hD : D ∈ B) (hn : ∀ xs, ¬ Rd H1 D (.tup xs)) (hx : ∀ q, H1 D ≠ some (LamX.CodeO D q)) (hb : ∀ ps, H1 D ≠ some (.tbl ps)) : Sx K Rt σ H A (upd H1 D o) env1 A1 B where
  go := h.go.put (h.go.new D (List.mem_append_right _ hD)) hn hx
  nd := h.nd
  rt := h.rt
  th := fun b z => by
    by_cases e : b = D
    · subst e; rw [upd_same]; exact fun q => by cases q
    · rw [upd_ne e]; exact h.th b z
  bth := fun b z => by
    by_cases e : b = D
    · subst e; rw [upd_same]; exact fun q => by cases q
    · rw [upd_ne e]; exact h.bth b z
  re := RE.mono env1 σ A1 (fun b u q c => by
    have e : b ≠ D := fun z => by
      subst z
      rcases c with c | c
      · exact h.out hD c
      · exact c (.inl (List.mem_append_right _ hD))
    exact ⟨(upd_ne e).trans q.1, q.2⟩) (fun b xs q => by
    have e : b ≠ D := fun z => by subst z; exact hn xs q
    exact Rd.mono q fun u q => by first | exact KN.put e q | (rw [upd_ne e]; exact q)) (fun b z => .inl z) h.re
  tb := h.tb.put hb hx
theorem Sx.ext (h : Sx K Rt σ H A H1 env1 A1 B) (x : ∀ b u, H1 b = some u → H2 b = some u) : Sx K Rt σ H A H2 env1 A1 B where
  go := h.go.ext x h.go.new
  nd := h.nd
  rt := h.rt
  th := fun b z q => by
    cases e : H1 b with
    | none => exact h.th b z e
    | some u => rw [x b u e] at q; cases q
  bth := fun b z q => by
    cases e : H1 b with
    | none => exact h.bth b z e
    | some u => rw [x b u e] at q; cases q
  re := RE.mono env1 σ A1 (fun b u q c => q.up x) (fun b xs q => Rd.mono q fun u q => x b u q) (fun b z => .inl z) h.re
  tb := h.tb.ext x
theorem OwnL.snoc : ∀ (ws : List W) (xs : List V) (B : List Addr), OwnL K H av ws xs B → Own K H av w y B2 → OwnL K H av (ws ++ [w]) (xs ++ [y]) (B ++ B2)
  | [], xs, B, g1, g2 => by
    obtain ⟨r1, r2⟩ := g1
    subst r1 r2
    exact ⟨y, [], B2, [], rfl, by simp, g2, rfl, rfl⟩
  | w' :: ws, xs, B, g1, g2 => by
    obtain ⟨v, r, C1, C2, r1, r2, g3, g4⟩ := g1
    subst r1 r2
    exact ⟨v, r ++ [y], C1, C2 ++ B2, rfl, by rw [List.append_assoc], g3, OwnL.snoc ws r C2 g4 g2⟩
theorem Own.push (h : Own K H av (.lst ws) (.ref D) (D :: B)) (hw : Own K H av w y B2) (nD : D ∉ B ++ B2) (aD : av D) : ∃ xs, H D = some (.lst xs) ∧ xs.length = ws.length ∧ Own K (upd H D (.lst (xs ++ [y]))) av (.lst (ws ++ [w])) (.ref D) (D :: (B ++ B2)) := by
  obtain ⟨a, xs, B0, e1, e2, hD, hl⟩ := h
  cases e1
  have eB : B = B0 := (List.cons.inj e2).2
  subst eB
  have lD : ∀ xs', ¬ Rd H D (.tup xs') := fun xs' z => by rcases z with z | ⟨o, z⟩ <;> (rw [hD] at z; cases z)
  have kp : ∀ (C : List Addr), D ∉ C → ∀ b u, KN H b u → (b ∈ C ∨ ¬ av b) → KN (upd H D (.lst (xs ++ [y]))) b u := fun C nC b u q c => by
    have e : b ≠ D := fun z => by
      subst z
      rcases c with c | c
      · exact nC c
      · exact c aD
    exact ⟨(upd_ne e).trans q.1, q.2⟩
  have tp : ∀ b xs', Rd H b (.tup xs') → Rd (upd H D (.lst (xs ++ [y]))) b (.tup xs') := fun b xs' q => by
    have e : b ≠ D := fun z => by subst z; exact lD xs' q
    exact Rd.mono q fun u q => by first | exact KN.put e q | (rw [upd_ne e]; exact q)
  have n1 : D ∉ B := fun z => nD (List.mem_append_left _ z)
  have n2 : D ∉ B2 := fun z => nD (List.mem_append_right _ z)
  refine ⟨xs, hD, (OwnL.len ws xs B hl).symm, D, xs ++ [y], B ++ B2, rfl, rfl, upd_same, ?_⟩
  have g1 := OwnL.mono ws xs B (kp B n1) tp (fun b z => .inl z) hl
  have g2 := Own.mono w y B2 (kp B2 n2) tp (fun b z => .inl z) hw
  exact OwnL.snoc ws xs B g1 g2
end
section
variable {K : PySem.W.Frag}
def tgs : Tg → List Nat
  | .var i => [i]
  | .tup is => is
  | .lst is => is
def gNames : List Nat → TGs
  | [] => gNil
  | i :: r => gCons (gName i) (gNames r)
def gT (K : PySem.W.Frag) : Tg → TG
  | .var i => gName i
  | .tup is => gTup K is.length (gNames is)
  | .lst is => gLst K is.length (gNames is)
theorem Rl.put {Rt : Addr → Prop} {H : Hp} {σ : St} {env : Env} {A : List Addr} {i : Nat} {t : T} {v : V} (h : Rl K Rt H σ env A) (hi : i < env.length) (f : Fz K H (Av A Rt) t v) :
    ∃ A', (∀ b ∈ A', b ∈ A) ∧ Rl K Rt H (σ.set i (some v)) (env.set i (some (.val t))) A' := by
  obtain ⟨A1, B, A2, eA, hn, hw, hu⟩ := RE.slot env σ A i h.re hi
  subst eA
  obtain ⟨nd, out⟩ := nodup_mid h.nd
  have sub : ∀ b ∈ A1 ++ A2, b ∈ A1 ++ (B ++ A2) := fun b z => by
    rcases List.mem_append.mp z with z | z
    · exact List.mem_append_left _ z
    · exact List.mem_append_right _ (List.mem_append_right _ z)
  have suba : ∀ b, Av (A1 ++ A2) Rt b → Av (A1 ++ (B ++ A2)) Rt b := fun b z => z.imp (sub b) id
  refine ⟨A1 ++ A2, sub, nd, fun b hb => h.rt b (sub b hb), h.th, ?_, h.tb⟩
  exact (hu H (Av (A1 ++ A2) Rt) (fun _ _ q _ => q) (fun _ _ q => q) fun b z => .inl (suba b z)).2 (.val t) v [] ⟨rfl, Fz.mono (fun _ _ q _ => q) (fun _ _ q => q) (fun b z => .inl (suba b z)) t v f⟩
theorem names_ok {Rt : Addr → Prop} {H : Hp} : ∀ (is : List Nat) (ts : List T) (vs : List V) (σ : St) (env : Env) (A : List Addr) (Q : St → Hp → Prop), is.length = ts.length → (∀ i ∈ is, i < env.length) → Rl K Rt H σ env A → FzL K H (Av A Rt) ts vs →
    (∀ σ' A', (∀ b ∈ A', b ∈ A) → Rl K Rt H σ' ((is.zip ts).foldl (fun e p => e.set p.1 (some (.val p.2))) env) A' → (∀ j, j ∉ is → σ'[j]? = σ[j]?) → Q σ' H) → gNames is vs σ H Q
  | [], ts, vs, σ, env, A, Q, hl, _, h, f, k => by
    cases ts with
    | nil =>
      cases (show vs = [] from f)
      exact ⟨rfl, k σ A (fun _ z => z) h fun _ _ => rfl⟩
    | cons t ts => cases hl
  | i :: is, ts, vs, σ, env, A, Q, hl, hi, h, f, k => by
    cases ts with
    | nil => cases hl
    | cons t ts =>
      obtain ⟨v, r, rfl, f1, f2⟩ := f
      obtain ⟨A1, sub, h1⟩ := h.put (hi i List.mem_cons_self) f1
      refine ⟨v, r, rfl, ?_⟩
      refine names_ok is ts r (σ.set i (some v)) (env.set i (some (.val t))) A1 Q (by simpa using hl) (fun j hj => by rw [List.length_set]; exact hi j (List.mem_cons_of_mem _ hj)) h1
        (FzL.mono (fun _ _ q _ => q) (fun _ _ q => q) (fun b z => .inl (z.imp (sub b) id)) ts r f2) fun σ' A' s' h' ks => k σ' A' (fun b hb => sub b (s' b hb)) h' fun j hj => ?_
      rw [ks j (fun z => hj (List.mem_cons_of_mem _ z)), List.getElem?_set_ne (fun z : i = j => hj (by rw [← z]; exact List.mem_cons_self))]
theorem tg_ok {Rt : Addr → Prop} {H : Hp} {σ : St} {env env1 : Env} {A : List Addr} {t : T} {v : V} {Q : St → Hp → Prop} (tg : Tg) (hi : ∀ i ∈ tgs tg, i < env.length) (h : Rl K Rt H σ env A) (f : Fz K H (Av A Rt) t v) (e : tgE tg t env = some env1)
    (k : ∀ σ' A', (∀ b ∈ A', b ∈ A) → Rl K Rt H σ' env1 A' → (∀ j, j ∉ tgs tg → σ'[j]? = σ[j]?) → Q σ' H) : gT K tg v σ H Q := by
  cases tg with
  | var i =>
    have e' : (if i < env.length then some (env.set i (some (.val t))) else none) = some env1 := e
    rw [if_pos (hi i List.mem_cons_self)] at e'
    cases e'
    obtain ⟨A1, sub, h1⟩ := h.put (hi i List.mem_cons_self) f
    exact k _ A1 sub h1 fun j hj => List.getElem?_set_ne fun z : i = j => hj (by rw [← z]; exact List.mem_cons_self)
  | tup is =>
    cases t with
    | tup ts =>
      have e' : (if is.length = ts.length then some ((is.zip ts).foldl (fun e p => e.set p.1 (some (W.val p.2))) env) else none) = some env1 := e
      by_cases c : is.length = ts.length
      · rw [if_pos c] at e'
        cases e'
        obtain ⟨a, xs, rfl, hs, hl⟩ := f
        exact ⟨a, xs, rfl, hs, by rw [← hl.len, c], names_ok is ts xs σ env A Q c hi h hl k⟩
      · rw [if_neg c] at e'; cases e'
    | _ => cases e
  | lst is =>
    cases t with
    | lst ts =>
      have e' : (if is.length = ts.length then some ((is.zip ts).foldl (fun e p => e.set p.1 (some (W.val p.2))) env) else none) = some env1 := e
      by_cases c : is.length = ts.length
      · rw [if_pos c] at e'
        cases e'
        obtain ⟨a, xs, rfl, hs, _, hl⟩ := f
        exact ⟨a, xs, rfl, .inl hs, by rw [← hl.len, c], names_ok is ts xs σ env A Q c hi h hl k⟩
      · rw [if_neg c] at e'; cases e'
    | _ => cases e
end

section
variable {X : Cx} {g : Cfg}
def Cfg.mute (g : Cfg) : Cfg := { g with W := fun _ _ _ _ => False }
theorem tgE_len {tg : Tg} {t : T} {env env1 : Env} (e : tgE tg t env = some env1) : env1.length = env.length := by
  cases tg with
  | var i =>
    have e' : (if i < env.length then some (env.set i (some (W.val t))) else none) = some env1 := e
    by_cases c : i < env.length
    · rw [if_pos c] at e'; cases e'; rw [List.length_set]
    · rw [if_neg c] at e'; cases e'
  | tup is =>
    cases t with
    | tup ts =>
      have e' : (if is.length = ts.length then some ((is.zip ts).foldl (fun e p => e.set p.1 (some (W.val p.2))) env) else none) = some env1 := e
      by_cases c : is.length = ts.length
      · rw [if_pos c] at e'
        cases e'
        have : ∀ (l : List (Nat × T)) (env : Env), (l.foldl (fun e p => e.set p.1 (some (W.val p.2))) env).length = env.length := by
          intro l
          induction l with
          | nil => intro env; rfl
          | cons p l ih => intro env; rw [List.foldl_cons, ih, List.length_set]
        exact this _ _
      · rw [if_neg c] at e'; cases e'
    | _ => cases e
  | lst is =>
    cases t with
    | lst ts =>
      have e' : (if is.length = ts.length then some ((is.zip ts).foldl (fun e p => e.set p.1 (some (W.val p.2))) env) else none) = some env1 := e
      by_cases c : is.length = ts.length
      · rw [if_pos c] at e'
        cases e'
        have : ∀ (l : List (Nat × T)) (env : Env), (l.foldl (fun e p => e.set p.1 (some (W.val p.2))) env).length = env.length := by
          intro l
          induction l with
          | nil => intro env; rfl
          | cons p l ih => intro env; rw [List.foldl_cons, ih, List.length_set]
        exact this _ _
      · rw [if_neg c] at e'; cases e'
    | _ => cases e
theorem wipe_in {σ : St} : ∀ (own : List Nat) (j : Nat), j ∈ own → j < σ.length → (L2.wipe σ own)[j]? = some none
  | i :: r, j, hj, hl => by
    show ((L2.wipe σ r).set i none)[j]? = _
    by_cases e : i = j
    · subst e
      exact List.getElem?_set_self (by rw [wipe_length]; exact hl)
    · rw [List.getElem?_set_ne e]
      rcases List.mem_cons.mp hj with z | z
      · exact absurd z.symm e
      · exact wipe_in r j z hl
theorem wipe_eq {σ σ2 : St} {own : List Nat} (hl : σ2.length = σ.length) (h : ∀ j, j ∉ own → σ2[j]? = σ[j]?) : L2.wipe σ2 own = L2.wipe σ own := by
  refine List.ext_getElem? fun j => ?_
  by_cases hj : j < σ.length
  · by_cases c : j ∈ own
    · rw [wipe_in own j c hj, wipe_in own j c (by omega)]
    · rw [wipe_out c, wipe_out c, h j c]
  · rw [List.getElem?_eq_none (by rw [wipe_length]; omega), List.getElem?_eq_none (by rw [wipe_length]; omega)]
section
variable {K : PySem.W.Frag} {Rt : Addr → Prop} {H H1 H2 : Hp} {σ σ2 : St} {env1 env2 : Env} {A A1 A2 B B1 B2 : List Addr}
theorem Sx.retg (s : Sx K Rt σ H A H1 env1 A1 B) (r : Rl K (RtB B Rt) H1 σ2 env2 A2) (sub : ∀ b ∈ A2, b ∈ A1) : Sx K Rt σ2 H A H1 env2 A2 B where
  go := s.go.sub fun b hb => by
    rcases List.mem_append.mp hb with z | z
    · exact List.mem_append_left _ (sub b z)
    · exact List.mem_append_right _ z
  nd := by
    have d := List.nodup_append.mp s.nd
    exact List.nodup_append.mpr ⟨r.nd, d.2.1, fun a ha b hb e => d.2.2 a (sub a ha) b hb e⟩
  rt := fun b hb => s.rt b (by
    rcases List.mem_append.mp hb with z | z
    · exact List.mem_append_left _ (sub b z)
    · exact List.mem_append_right _ z)
  th := s.th
  bth := s.bth
  tb := s.tb
  re := RE.mono env2 σ2 A2 (fun b o q _ => q) (fun _ _ q => q) (fun b z => .inl (by
    rcases z with z | z
    · rcases List.mem_append.mp z with z | z
      · exact .inl z
      · exact .inr (.inl z)
    · exact .inr (.inr z))) r.re
theorem Sx.nextP {σ0 : St} {J : L2.It} {ts : List T} {P : Hp → (Addr → Prop) → Prop} (jt : Jt K J ts P) (h : Sx K Rt σ0 H A H1 env1 A1 B1) (n : Sx K (RtB B1 Rt) σ H1 A1 H2 env2 A2 B2) (p : P H1 (Av (A1 ++ B1) Rt)) : P H2 (Av (A2 ++ (B1 ++ B2)) Rt) :=
  jt.mono _ _ _ _ p (fun b o q c => n.go.keep b o q fun z => c (.inl (List.mem_append_left _ z))) n.go.tups (h.hav n)
end
theorem lc_ev {own : List Nat} {tgi : Tg} {it : Ev.It} {cs : Tts} {e : E} {σ : St} {H : Hp} {Q : VK} (hlen : ∀ i ∈ tgs tgi, i < X.N.length) (hσ : σ.length = X.N.length) (h : tE X.K g (.lc own tgi it cs e) σ H Q) :
    tLc (tI X.K g it) (gT X.K tgi) (tTs X.K g.mute cs) (tE X.K g.mute e) own σ H Q := by
  obtain ⟨Rt, env, A, rl, p⟩ := h
  have hel : env.length = X.N.length := by rw [RE.len _ _ _ rl.re, hσ]
  refine ⟨Rt, env, A, rl, Post.seqE p fun ts e1 J H1 A1 B1 er s1 o1 p1 => ?_⟩
  obtain ⟨rfl, P, jt, pP⟩ := o1
  intro D hD
  have p2 : Post X.K g (PO1 X.K) Rt σ H A (if (hidOk e1 own && tgIn tgi own) = true then (match lcL tgi own (evTs g.G g.C cs) (evE g.G g.C e) ts [] (wipeE e1 own) with
    | .ok ws env2 => .ok (.lst ws) (backE e1 env2 own)
    | _ => .no) else .no) Q := p1
  have c0 : (hidOk e1 own && tgIn tgi own) = true := by
    by_cases c : (hidOk e1 own && tgIn tgi own) = true
    · exact c
    · rw [if_neg c] at p2; exact p2.elim
  rw [if_pos c0] at p2
  rw [Bool.and_eq_true] at c0
  obtain ⟨hid, tin⟩ := c0
  have bare := hidOk_of hid
  cases el : lcL tgi own (evTs g.G g.C cs) (evE g.G g.C e) ts [] (wipeE e1 own) with
  | exc _ _ _ => rw [el] at p2; exact p2.elim
  | no => rw [el] at p2; exact p2.elim
  | ok wsF envF =>
  rw [el] at p2
  have re1 : RE X.K H1 (Av (A1 ++ []) Rt) e1 σ A1 := s1.re
  have len1 : e1.length = X.N.length := by rw [RE.len _ _ _ re1, hσ]
  have olds : ∀ (Hc : Hp) (A' : List Addr), Go A1 H1 A' Hc → ∀ j ∈ own, e1[j]? = some none ∨ ∃ t v, e1[j]? = some (some (.val t)) ∧ σ[j]? = some (some v) ∧ Fz X.K Hc (Av A' Rt) t v := fun Hc A' go j hj => by
    rcases bare j hj with z | ⟨t, z⟩
    · exact .inl z
    · obtain ⟨_, _, _, _, _, hw, _⟩ := RE.slot e1 σ A1 j re1 (List.getElem?_eq_some_iff.mp z).1
      obtain ⟨v, ev, ow⟩ := hw _ z
      refine .inr ⟨t, v, z, ev, Fz.mono (fun b o q n => go.keep b o q fun z => n (.inl (List.mem_append_left _ z))) go.tups (fun b z => ?_) t v ow.2⟩
      rcases z with z | z
      · exact (go.new b z).imp (fun z => .inl (List.mem_append_left _ z)) id
      · exact .inl (.inr z)
  have tgin : ∀ i ∈ tgs tgi, i ∈ own := fun i hi => by
    cases tgi with
    | var k =>
      rcases List.mem_cons.mp hi with rfl | z
      · exact List.contains_iff_mem.mp tin
      · cases z
    | tup is => exact List.contains_iff_mem.mp (List.all_eq_true.mp tin i hi)
    | lst is => exact List.contains_iff_mem.mp (List.all_eq_true.mp tin i hi)
  refine ⟨fun i m Hc => m = ts.length - i ∧ i ≤ ts.length ∧ ∃ envi Ai acc B, lcL tgi own (evTs g.G g.C cs) (evE g.G g.C e) (ts.drop i) acc envi = .ok wsF envF ∧ Sx X.K Rt (L2.wipe σ own) H A Hc envi Ai (D :: B) ∧
      Own X.K Hc (Av (Ai ++ (D :: B)) Rt) (.lst acc) (.ref D) (D :: B) ∧ P Hc (Av (Ai ++ (D :: B)) Rt) ∧ Go A1 H1 (Ai ++ (D :: B)) Hc ∧ ∀ j ∈ own, envi[j]? = some none, ⟨ts.length, ?_⟩, ?_⟩
  · -- the start
    have s2 : Sx X.K Rt σ H A (upd H1 D (.lst [])) e1 A1 [D] := s1.new hD
    refine ⟨by simp, Nat.zero_le _, wipeE e1 own, A1, [], [], by simpa using el, ⟨s2.go, s2.nd, s2.rt, s2.th, s2.bth, RE.wipe own bare s2.re, s2.tb⟩, ⟨D, [], [], rfl, rfl, upd_same, rfl, rfl⟩, ?_, ?_, fun j hj => wipeE_none own j hj (bare j hj).lt⟩
    · exact jt.mono _ _ _ _ pP (fun b o q _ => q.up (newkeep hD)) (newtups hD) (Sx.newav hD)
    · exact ((Go.refl (A := A1) (H := H1)).upd hD).sub fun b hb => by
        rcases List.mem_append.mp hb with z | z
        · exact List.mem_cons_of_mem _ z
        · rcases List.mem_cons.mp z with rfl | z
          · exact List.mem_cons_self
          · cases z
  · rintro i m Hc ⟨rfl, hile, envi, Ai, acc, B, eL, sx, ow, pH, go, nones⟩
    by_cases hlt : i < ts.length
    · have et : ts.drop i = ts[i] :: ts.drop (i + 1) := List.drop_eq_getElem_cons hlt
      have gi : ts[i]? = some ts[i] := List.getElem?_eq_getElem hlt
      rw [et] at eL
      have eL0 : (match tgE tgi ts[i] envi with
        | none => R.no
        | some env1 => (evTs g.G g.C cs env1).bind fun b env2 => match b with
          | true => (evE g.G g.C e env2).bind fun w env3 => if (decide (acc.length < 16777216) && hidOk env3 own) = true then lcL tgi own (evTs g.G g.C cs) (evE g.G g.C e) (ts.drop (i + 1)) (acc ++ [w]) (wipeE env3 own) else .no
          | false => if hidOk env2 own = true then lcL tgi own (evTs g.G g.C cs) (evE g.G g.C e) (ts.drop (i + 1)) acc (wipeE env2 own) else .no) = .ok wsF envF := eL
      cases etg : tgE tgi ts[i] envi with
      | none => rw [etg] at eL0; cases eL0
      | some env1 =>
      rw [etg] at eL0
      obtain ⟨b, env2, eb, eL1⟩ := bind_ok eL0
      refine .inr ⟨jt.go Hc _ i _ pH gi, fun Hn => ∃ envi Ai acc B, lcL tgi own (evTs g.G g.C cs) (evE g.G g.C e) (ts.drop (i + 1)) acc envi = .ok wsF envF ∧ Sx X.K Rt (L2.wipe σ own) H A Hn envi Ai (D :: B) ∧
        Own X.K Hn (Av (Ai ++ (D :: B)) Rt) (.lst acc) (.ref D) (D :: B) ∧ P Hn (Av (Ai ++ (D :: B)) Rt) ∧ Go A1 H1 (Ai ++ (D :: B)) Hn ∧ ∀ j ∈ own, envi[j]? = some none, fun Hn w => ⟨ts.length - (i + 1), by omega, rfl, hlt, w⟩, fun x Hy y => ?_⟩
      obtain ⟨ext, fx⟩ := jt.yld Hc _ i _ x Hy pH gi y
      have sx1 := sx.ext ext
      have ow1 : Own X.K Hy (Av (Ai ++ (D :: B)) Rt) (.lst acc) (.ref D) (D :: B) := Own.mono _ _ _ (fun b o q _ => q.up ext) (fun b xs q => Rd.mono q fun o q => ext b o q) (fun b z => .inl z) ow
      have pH1 : P Hy (Av (Ai ++ (D :: B)) Rt) := jt.mono _ _ _ _ pH (fun b o q _ => q.up ext) (fun b xs q => Rd.mono q fun o q => ext b o q) (fun b z => .inl z)
      have go1 : Go A1 H1 (Ai ++ (D :: B)) Hy := go.ext ext go.new
      have elen : envi.length = X.N.length := by rw [RE.len _ _ _ sx.re, wipe_length, hσ]
      have fx1 : Fz X.K Hy (Av Ai (RtB (D :: B) Rt)) ts[i] x := Fz.mono (fun _ _ q _ => q) (fun _ _ q => q) (fun b z => .inl (by
        rcases z with z | z | z
        · exact .inl (List.mem_append_left _ z)
        · exact .inl (List.mem_append_right _ z)
        · exact .inr z)) _ _ fx
      refine tg_ok tgi (fun j hj => by rw [elen]; exact hlen j hj) sx1.rl fx1 etg fun σ2 A2 sub rl2 kσ => ?_
      have l2 : σ2.length = σ.length := by
        rw [← RE.len _ _ _ rl2.re, tgE_len etg, elen, hσ]
      have weq : L2.wipe σ2 own = L2.wipe σ own := by
        refine wipe_eq l2 fun j hj => ?_
        rw [kσ j (fun z => hj (tgin j z)), wipe_out hj]
      refine ⟨weq, RtB (D :: B) Rt, env1, A2, rl2, ?_⟩
      have sxT : Sx X.K Rt σ2 H A Hy env1 A2 (D :: B) := sx1.retg rl2 sub
      have suba : ∀ b, Av (A2 ++ (D :: B)) Rt b → Av (Ai ++ (D :: B)) Rt b := fun b z => by
        rcases z with z | z
        · rcases List.mem_append.mp z with z | z
          · exact .inl (List.mem_append_left _ (sub b z))
          · exact .inl (List.mem_append_right _ z)
        · exact .inr z
      have owT : Own X.K Hy (Av (A2 ++ (D :: B)) Rt) (.lst acc) (.ref D) (D :: B) := Own.mono _ _ _ (fun _ _ q _ => q) (fun _ _ q => q) (fun b z => .inl (suba b z)) ow1
      have pT : P Hy (Av (A2 ++ (D :: B)) Rt) := jt.mono _ _ _ _ pH1 (fun _ _ q _ => q) (fun _ _ q => q) (fun b z => .inl (suba b z))
      have goT : Go A1 H1 (A2 ++ (D :: B)) Hy := go1.sub fun b hb => by
        rcases List.mem_append.mp hb with z | z
        · exact List.mem_append_left _ (sub b z)
        · exact List.mem_append_right _ z
      show Post X.K g.mute PBl (RtB (D :: B) Rt) σ2 Hy A2 (evTs g.G g.C cs env1) _
      rw [eb]
      intro b' H3 A3 B3 s3 hb3
      obtain ⟨e3, e4⟩ := hb3
      subst e3 e4
      have s4 : Sx X.K Rt σ2 H A H3 env2 A3 (D :: B) := by
        have := sxT.next s3
        rw [List.append_nil] at this
        exact this
      have ow3 : Own X.K H3 (Av (A3 ++ (D :: B)) Rt) (.lst acc) (.ref D) (D :: B) := by
        have := sxT.own s3 owT
        rw [List.append_nil] at this
        exact this
      have p3 : P H3 (Av (A3 ++ (D :: B)) Rt) := by
        have := sxT.nextP jt s3 pT
        rw [List.append_nil] at this
        exact this
      have go3 : Go A1 H1 (A3 ++ (D :: B)) H3 := by
        have := goT.trans (show Go A2 Hy A3 H3 from s3.go.sub fun b hb => List.mem_append_left _ hb)
        exact this
      cases b' with
      | false =>
        have eL2 : (if hidOk env2 own = true then lcL tgi own (evTs g.G g.C cs) (evE g.G g.C e) (ts.drop (i + 1)) acc (wipeE env2 own) else .no) = .ok wsF envF := eL1
        by_cases c : hidOk env2 own = true
        · rw [if_pos c] at eL2
          have b2 := hidOk_of c
          have rw2 := RE.wipe own b2 s4.re
          rw [weq] at rw2
          exact ⟨wipeE env2 own, A3, acc, B, eL2, ⟨s4.go, s4.nd, s4.rt, s4.th, s4.bth, rw2, s4.tb⟩, ow3, p3, go3, fun j hj => wipeE_none own j hj (b2 j hj).lt⟩
        · rw [if_neg c] at eL2; cases eL2
      | true =>
        obtain ⟨w, env3, ew, eL2⟩ := bind_ok (show ((evE g.G g.C e env2).bind fun w env3 => if (decide (acc.length < 16777216) && hidOk env3 own) = true then lcL tgi own (evTs g.G g.C cs) (evE g.G g.C e) (ts.drop (i + 1)) (acc ++ [w]) (wipeE env3 own) else .no) = .ok wsF envF from eL1)
        refine ⟨RtB (D :: B) Rt, env2, A3, s4.rl, ?_⟩
        show Post X.K g.mute (PO1 X.K) (RtB (D :: B) Rt) σ2 H3 A3 (evE g.G g.C e env2) _
        rw [ew]
        intro yv H4 A4 B4 s5 o5
        have s6 : Sx X.K Rt σ2 H A H4 env3 A4 (D :: (B ++ B4)) := s4.next s5
        have ow4 : Own X.K H4 (Av (A4 ++ (D :: (B ++ B4))) Rt) (.lst acc) (.ref D) (D :: B) := s4.own s5 ow3
        have o6 : Own X.K H4 (Av (A4 ++ (D :: (B ++ B4))) Rt) w yv B4 := Sx.own2 (B1 := D :: B) o5
        have p4 : P H4 (Av (A4 ++ (D :: (B ++ B4))) Rt) := s4.nextP jt s5 p3
        have go4 : Go A1 H1 (A4 ++ (D :: (B ++ B4))) H4 := (go3.trans s5.go).sub fun b hb => by
          rcases List.mem_append.mp hb with z | z
          · exact List.mem_append_left _ (List.mem_append_left _ z)
          · rcases List.mem_cons.mp z with rfl | z
            · exact List.mem_append_right _ List.mem_cons_self
            · rcases List.mem_append.mp z with z | z
              · exact List.mem_append_right _ (List.mem_cons_of_mem _ z)
              · exact List.mem_append_left _ (List.mem_append_right _ z)
        by_cases c : (decide (acc.length < 16777216) && hidOk env3 own) = true
        · rw [if_pos c] at eL2
          rw [Bool.and_eq_true] at c
          have nD : D ∉ B ++ B4 := (List.nodup_cons.mp (List.nodup_append.mp s6.nd).2.1).1
          have aD : Av (A4 ++ (D :: (B ++ B4))) Rt D := .inl (List.mem_append_right _ List.mem_cons_self)
          obtain ⟨xs, hxs, hxl, owN⟩ := Own.push ow4 o6 nD aD
          have lD : ∀ xs', ¬ Rd H4 D (.tup xs') := fun xs' z => by rcases z with z | ⟨o, z⟩ <;> (rw [hxs] at z; cases z)
          have s7 := s6.wr (o := .lst (xs ++ [yv])) List.mem_cons_self lD (fun q z => by rw [hxs] at z; unfold LamX.CodeO at z; cases z) (fun ps z => by rw [hxs] at z; cases z)
          have b2 := hidOk_of c.2
          have rw2 := RE.wipe own b2 s7.re
          rw [weq] at rw2
          refine ⟨xs, hxs, by rw [sizeLine_eq, hxl]; exact of_decide_eq_true c.1, wipeE env3 own, A4, acc ++ [w], B ++ B4, eL2, ⟨s7.go, s7.nd, s7.rt, s7.th, s7.bth, rw2, s7.tb⟩, owN, ?_, ?_, fun j hj => wipeE_none own j hj (b2 j hj).lt⟩
          · refine jt.mono _ _ _ _ p4 (fun b o q n => ?_) (fun b xs' q => ?_) (fun b z => .inl z)
            · exact ⟨(upd_ne (fun z => n (by rw [z]; exact aD))).trans q.1, q.2⟩
            · have ne : b ≠ D := fun z => by subst z; exact lD xs' q
              exact Rd.mono q fun u q => by first | exact KN.put ne q | (rw [upd_ne ne]; exact q)
          · exact go4.put (.inr hD) lD (fun q z => by rw [hxs] at z; unfold LamX.CodeO at z; cases z)
        · rw [if_neg c] at eL2; cases eL2
    · -- the end
      have ei : i = ts.length := by omega
      subst ei
      rw [List.drop_length] at eL
      cases (show R.ok acc envi = R.ok wsF envF from eL)
      refine .inl ⟨jt.stop Hc _ _ pH (Nat.le_refl _), ?_⟩
      have rb := (RE.back own (fun j hj => .inl (nones j hj)) (olds Hc (Ai ++ (D :: B)) go) sx.re).1
      rw [backS_wipe] at rb
      exact p2 (.ref D) Hc Ai (D :: B) ⟨sx.go, sx.nd, sx.rt, sx.th, sx.bth, rb, sx.tb⟩ ow
theorem snd_lc {elt tg iter : Expr} {ifs : List Expr} {scope : Scope} {own' : List (Str × Nat)} {own : List Nat} {pos : Pos} {tgi : Tg} {it : Ev.It} {cs : Tts} {e : E} (eo : own'.map (·.2) = own) (hc : X.calm = true) (hN : X.N.Nodup)
    (hi : PI X tg iter (tI X.K g it)) (ok : BlkOk X.N X.env.scope scope own') (hlen : ∀ i ∈ tgs tgi, i < X.N.length)
    (hg : ∀ (s : Shared) (H : Hp) (C : Addr) (cl : List (Str × Addr)) (fp : List Addr), PG (X.blk s H scope (compEnvC scope cl C X.env) fp) tg (gT X.K tgi))
    (ht : ∀ (s : Shared) (H : Hp) (C : Addr) (cl : List (Str × Addr)) (fp : List Addr), PTs (X.blk s H scope (compEnvC scope cl C X.env) fp) ifs (tTs X.K g.mute cs))
    (he : ∀ (s : Shared) (H : Hp) (C : Addr) (cl : List (Str × Addr)) (fp : List Addr), PE (X.blk s H scope (compEnvC scope cl C X.env) fp) elt (tE X.K g.mute e)) (hs : ∀ x, foldedSetIterable iter X.env x = pure x) :
    PE X (.ListComp elt [⟨tg, iter, ifs, 0⟩] scope pos) (tE X.K g (.lc own tgi it cs e)) := by
  subst eo
  exact ⟨fun pins s σ H Q I h => (pe_lc hc hN hi ok hg ht he hs).run pins s σ H Q I (lc_ev hlen I.len h)⟩
end
end Ev
namespace Ev
open PySem L2
variable [WW]
def Kp (ks : List Nat) (σ σ' : St) : Prop := σ'.length = σ.length ∧ ∀ j ∈ ks, σ'[j]? = σ[j]?
theorem Kp.refl {ks : List Nat} {σ : St} : Kp ks σ σ := ⟨rfl, fun _ _ => rfl⟩
theorem Kp.trans {ks : List Nat} {σ σ1 σ2 : St} (h : Kp ks σ σ1) (h2 : Kp ks σ1 σ2) : Kp ks σ σ2 := ⟨h2.1.trans h.1, fun j hj => (h2.2 j hj).trans (h.2 j hj)⟩
theorem Kp.set {ks : List Nat} {σ : St} {i : Nat} {o : Option V} (h : ks.contains i = false) : Kp ks σ (σ.set i o) := ⟨List.length_set, fun j hj => List.getElem?_set_ne fun z : i = j => by
  subst z
  rw [List.contains_iff_mem.mpr hj] at h
  cases h⟩
section
variable (K : PySem.W.Frag) (g : Cfg) (ks : List Nat)
def PostS (Rt : Addr → Prop) (σ : St) (H : Hp) (A : List Addr) (r : R F) (D : Ends) : Prop := match r with
  | .ok .nx env => ∀ σ' H' A', Kp ks σ σ' → Sx K Rt σ' H A H' env A' [] → D.nx σ' H'
  | .ok .bk env => ∀ σ' H' A', Kp ks σ σ' → Sx K Rt σ' H A H' env A' [] → D.bk σ' H'
  | .ok .ct env => ∀ σ' H' A', Kp ks σ σ' → Sx K Rt σ' H A H' env A' [] → D.ct σ' H'
  | .ok (.rt w) env => ∀ v σ' H' A' B, Kp ks σ σ' → Sx K Rt σ' H A H' env A' B → Own K H' (Av (A' ++ B) Rt) w v B → D.rt v H'
  | .exc c t env => ∀ cls d σ' H' A', Kp ks σ σ' → Sx K Rt σ' H A H' env A' [] → g.xr c t H' (Av (A' ++ []) Rt) cls d → g.W cls d σ' H'
  | .no => False
def tS (s : S) : TS := fun D σ H => ∃ Rt env A, Rl K Rt H σ env A ∧ PostS K g ks Rt σ H A (evS g.G g.C s env) D
def tSs (s : Ss) : TS := fun D σ H => ∃ Rt env A, Rl K Rt H σ env A ∧ PostS K g ks Rt σ H A (evSs g.G g.C s env) D
end
theorem PS.imp {X : Cx} {s : Stmt} {t t' : TS} (h : PS X s t) (i : ∀ D σ H, σ.length = X.N.length → t' D σ H → t D σ H) : PS X s t' := ⟨fun pins s σ H Q I q => h.run pins s σ H Q I (i Q σ H I.len q)⟩
theorem PSs.imp {X : Cx} {s : List Stmt} {t t' : TS} (h : PSs X s t) (i : ∀ D σ H, σ.length = X.N.length → t' D σ H → t D σ H) : PSs X s t' := ⟨fun pins s σ H Q I q => h.run pins s σ H Q I (i Q σ H I.len q)⟩
section
variable {K : PySem.W.Frag} {g : Cfg} {ks : List Nat} {α β : Type} {Pa : α → β → Hp → (Addr → Prop) → List Addr → Prop}
variable {Rt : Addr → Prop} {σ σ1 : St} {H H1 H2 : Hp} {A A1 A2 B B1 B2 D : List Addr} {env env1 env2 : Env} {r : R α} {rf : R F} {f : α → Env → R F} {De : Ends} {Q1 : β → Hp → Prop} {w : W} {v : V} {i : Nat}
theorem PostS.seq (h : PostS K g ks Rt σ H A (r.bind f) De) (k : ∀ a e1 b H1 A1 B1, Sx K Rt σ H A H1 e1 A1 B1 → Pa a b H1 (Av (A1 ++ B1) Rt) B1 → PostS K g ks Rt σ H A (f a e1) De → Q1 b H1) : Post K g Pa Rt σ H A r Q1 := by
  cases r with
  | ok a e1 => exact fun b H' A' B' sx p => k a e1 b H' A' B' sx p h
  | exc c t e1 => exact fun cls d H' A' sx p => h cls d σ H' A' Kp.refl sx p
  | no => exact h
theorem PostS.seq2 (s1 : Sx K Rt σ H A H1 env1 A1 B1) (h : PostS K g ks Rt σ H A (r.bind f) De)
    (k : ∀ a e2 b H2 A2 B2, Sx K (RtB B1 Rt) σ H1 A1 H2 e2 A2 B2 → Pa a b H2 (Av (A2 ++ B2) (RtB B1 Rt)) B2 → PostS K g ks Rt σ H A (f a e2) De → Q1 b H2) : Post K g Pa (RtB B1 Rt) σ H1 A1 r Q1 := by
  cases r with
  | ok a e1 => exact fun b H' A' B' sx p => k a e1 b H' A' B' sx p h
  | exc c t e1 =>
    refine fun cls d H' A' sx p => h cls d σ H' A' Kp.refl (s1.next sx).drop0 (g.xm c t H' _ _ cls d (fun b z => ?_) p)
    rcases z with z | z
    · exact .inl z
    · exact .inr (.inr z)
  | no => exact h
theorem PostS.shift (kp : Kp ks σ σ1) (s1 : Sx K Rt σ1 H A H1 env1 A1 []) (h : PostS K g ks Rt σ H A rf De) : PostS K g ks Rt σ1 H1 A1 rf De := by
  cases rf with
  | ok a e =>
    cases a with
    | nx => exact fun σ' H' A' k sx => h σ' H' A' (kp.trans k) (s1.next0 sx)
    | bk => exact fun σ' H' A' k sx => h σ' H' A' (kp.trans k) (s1.next0 sx)
    | ct => exact fun σ' H' A' k sx => h σ' H' A' (kp.trans k) (s1.next0 sx)
    | rt w => exact fun v σ' H' A' B' k sx ow => h v σ' H' A' B' (kp.trans k) (s1.next0 sx) ow
  | exc c t e => exact fun cls d σ' H' A' k sx p => h cls d σ' H' A' (kp.trans k) (s1.next0 sx) p
  | no => exact h
theorem perm_nodup {a b : List Addr} (h : a.Perm b) (n : a.Nodup) : b.Nodup := h.nodup_iff.mp n
theorem put_nodup {C1 C2 Bo B D : List Addr} (h : ((C1 ++ (Bo ++ C2)) ++ (B ++ D)).Nodup) : ((C1 ++ (B ++ C2)) ++ D).Nodup := by
  have p : ((C1 ++ (Bo ++ C2)) ++ (B ++ D)).Perm (Bo ++ ((C1 ++ (B ++ C2)) ++ D)) := by
    rw [List.perm_iff_count]
    intro a
    simp only [List.count_append]
    omega
  exact (List.nodup_append.mp (perm_nodup p h)).2.1
theorem Sx.put (s : Sx K Rt σ H A H1 env A1 (B ++ D)) (ow : Own K H1 (Av (A1 ++ (B ++ D)) Rt) w v B) (hi : i < env.length) :
    ∃ A', Sx K Rt (σ.set i (some v)) H A H1 (env.set i (some w)) A' D ∧ ∀ b, Av (A' ++ D) Rt b → Av (A1 ++ (B ++ D)) Rt b := by
  obtain ⟨C1, Bo, C2, eA, hn, hw, hu⟩ := RE.slot env σ A1 i s.re hi
  subst eA
  have sub : ∀ b ∈ (C1 ++ (B ++ C2)) ++ D, b ∈ (C1 ++ (Bo ++ C2)) ++ (B ++ D) := fun b z => by
    simp only [List.mem_append] at z ⊢
    rcases z with (z | z | z) | z
    · exact .inl (.inl z)
    · exact .inr (.inl z)
    · exact .inl (.inr (.inr z))
    · exact .inr (.inr z)
  have suba : ∀ b, Av ((C1 ++ (B ++ C2)) ++ D) Rt b → Av ((C1 ++ (Bo ++ C2)) ++ (B ++ D)) Rt b := fun b z => z.imp (sub b) id
  refine ⟨C1 ++ (B ++ C2), ⟨s.go.sub sub, put_nodup s.nd, fun b hb => s.rt b (sub b hb), s.th, fun b hb => s.bth b (List.mem_append_right _ hb), ?_, s.tb⟩, suba⟩
  exact (hu H1 _ (fun _ _ q _ => q) (fun _ _ q => q) fun b z => .inl (suba b z)).2 w v B (Own.mono w v B (fun _ _ q _ => q) (fun _ _ q => q) (fun b z => .inl (suba b z)) ow)
theorem Sx.put0 (s : Sx K Rt σ H A H1 env A1 B) (ow : Own K H1 (Av (A1 ++ B) Rt) w v B) (hi : i < env.length) :
    ∃ A', Sx K Rt (σ.set i (some v)) H A H1 (env.set i (some w)) A' [] := by
  have e : B ++ [] = B := List.append_nil _
  rw [← e] at s
  have ow' : Own K H1 (Av (A1 ++ (B ++ [])) Rt) w v B := by rw [e]; exact ow
  obtain ⟨A', h, _⟩ := s.put ow' hi
  exact ⟨A', h⟩
end
section
variable {X : Cx} {g : Cfg} {ks : List Nat} {pos pos' : Pos} {a b c : Expr} {ia ib ic : E} {ja jb : Tt} {i : Nat} {x : Str} {st : Stmt} {rest : List Stmt} {s : S} {ss s1 s2 : Ss}
theorem lt_N {l : List Str} (h : l[i]? = some x) : i < l.length := (List.getElem?_eq_some_iff.mp h).1
theorem sns_nil : PSs X [] (tSs X.K g ks .nil) := PSs.imp pss_nil fun D σ H hl ⟨Rt, env, A, rl, p⟩ => p σ H A Kp.refl rl.sx
theorem sns_cons (h1 : PS X st (tS X.K g ks s)) (h2 : PSs X rest (tSs X.K g ks ss)) : PSs X (st :: rest) (tSs X.K g ks (.cons s ss)) :=
  PSs.imp (pss_cons h1 h2) fun D σ H hl ⟨Rt, env, A, rl, p⟩ => by
    refine ⟨Rt, env, A, rl, ?_⟩
    have p' : PostS X.K g ks Rt σ H A ((evS g.G g.C s env).bind fun f env1 => (match f with | .nx => evSs g.G g.C ss env1 | f => .ok f env1)) D := p
    cases e : evS g.G g.C s env with
    | ok f env1 =>
      rw [e] at p'
      cases f with
      | nx => exact fun σ' H' A' kp sx => ⟨Rt, env1, A', sx.rl0, PostS.shift kp sx p'⟩
      | rt w => exact p'
      | bk => exact p'
      | ct => exact p'
    | exc c t env1 => rw [e] at p'; exact p'
    | no => rw [e] at p'; exact p'
theorem sns_asg (hN : X.N.Nodup) (hi : X.N[i]? = some x) (hx : Loc X.env.scope x) (he : PE X a (tE X.K g ia)) (hk : ks.contains i = false) (hs : swapsWith a (some (.Name x pos')) pos.line X.env = pure false) (hf : X.fn x = true ∨ X.env.scope.names.lookup x = some .local) :
    PS X (.Assign [.Name x pos'] a pos) (tS X.K g ks (.asg i ia)) :=
  PS.imp (ps_set hN hi hx he hs hf) fun D σ H hl ⟨Rt, env, A, rl, p⟩ => by
    refine ⟨Rt, env, A, rl, PostS.seq p fun w e1 v H1 A1 B1 s1 o1 p1 => ?_⟩
    have len : i < e1.length := by rw [RE.len _ _ _ s1.re, hl]; exact lt_N hi
    obtain ⟨A', s2⟩ := s1.put0 o1 len
    exact p1 _ H1 A' (Kp.set hk) s2
theorem sns_asgLc {elt tg iter : Expr} {ifs : List Expr} {scope : Scope} {own' : List (Str × Nat)} {own : List Nat} {posc : Pos} {tgi : Tg} {it : Ev.It} {cs : Tts} {e : E} (eo : own'.map (·.2) = own) (hc : X.calm = true) (hN : X.N.Nodup)
    (hi : X.N[i]? = some x) (hyl : X.env.scope.names.lookup x = some .local) (hk : ks.contains i = false)
    (hsw : swapsWith (.ListComp elt [⟨tg, iter, ifs, 0⟩] scope posc) (some (.Name x pos')) pos.line X.env = pure true)
    (hit : PI X tg iter (tI X.K g it)) (ok : BlkOk X.N X.env.scope scope own') (hlen : ∀ i ∈ tgs tgi, i < X.N.length)
    (hg : ∀ (s : Shared) (H : Hp) (C : Addr) (cl : List (Str × Addr)) (fp : List Addr), PG (X.blk s H scope (compEnvC scope cl C X.env) fp) tg (gT X.K tgi))
    (ht : ∀ (s : Shared) (H : Hp) (C : Addr) (cl : List (Str × Addr)) (fp : List Addr), PTs (X.blk s H scope (compEnvC scope cl C X.env) fp) ifs (tTs X.K g.mute cs))
    (he : ∀ (s : Shared) (H : Hp) (C : Addr) (cl : List (Str × Addr)) (fp : List Addr), PE (X.blk s H scope (compEnvC scope cl C X.env) fp) elt (tE X.K g.mute e)) (hs : ∀ x, foldedSetIterable iter X.env x = pure x) :
    PS X (.Assign [.Name x pos'] (.ListComp elt [⟨tg, iter, ifs, 0⟩] scope posc) pos) (tS X.K g ks (.asg i (.lc own tgi it cs e))) := by
  subst eo
  refine PS.imp (ps_setLc hc hN hi hyl hsw hit ok hg ht he hs) fun D σ H hl ⟨Rt, env, A, rl, p⟩ => ?_
  refine lc_ev (X := X) (Q := fun x H1 => gName i x σ H1 D.nx) hlen hl ⟨Rt, env, A, rl, PostS.seq p fun w e1 v H1 A1 B1 s1 o1 p1 => ?_⟩
  have len : i < e1.length := by rw [RE.len _ _ _ s1.re, hl]; exact lt_N hi
  obtain ⟨A', s2⟩ := s1.put0 o1 len
  exact p1 _ H1 A' (Kp.set hk) s2
theorem sns_asgT {tg : Expr} {is : List Nat} (he : PE X a (tE X.K g ia)) (hg : PG X tg (gT X.K (.tup is))) (hlen : ∀ i ∈ is, i < X.N.length) (hk : ∀ i ∈ ks, is.contains i = false) (hs : swapsWithSole [tg] a pos.line X.env = pure false) (hw : swappedStores [tg] a X.env = pure none)
    (h1 : (assignEach [tg] X.env).map (·.2) = [assign tg X.env]) : PS X (.Assign [tg] a pos) (tS X.K g ks (.asgT is ia)) :=
  PS.imp (ps_asg he hg hs hw h1) fun D σ H hl ⟨Rt, env, A, rl, p⟩ => by
    refine ⟨Rt, env, A, rl, PostS.seq p fun w e1 v H1 A1 B1 s1 o1 p1 => ?_⟩
    have p2 : PostS X.K g ks Rt σ H A (match tgE (.tup is) w.fz e1 with | some env2 => .ok .nx env2 | none => .no) D := p1
    cases e : tgE (.tup is) w.fz e1 with
    | none => rw [e] at p2; exact p2.elim
    | some env2 =>
      rw [e] at p2
      have s2 := s1.drop0
      have fz : Fz X.K H1 (Av A1 Rt) w.fz v := by have := s1.fz0 o1; rw [List.append_nil] at this; exact this
      have hi : ∀ i ∈ tgs (.tup is), i < e1.length := fun i hi => by rw [RE.len _ _ _ s1.re, hl]; exact hlen i hi
      refine tg_ok (.tup is) hi s2.rl0 fz e fun σ' A' sub rl' kσ => ?_
      refine p2 σ' H1 A' ⟨by rw [← RE.len _ _ _ rl'.re, tgE_len e, RE.len _ _ _ s1.re], fun j hj => kσ j fun z => ?_⟩ (s2.retg (by rw [show RtB [] Rt = Rt from funext fun b => propext (rtB_nil b)]; exact rl') sub)
      have := hk j hj
      rw [List.contains_iff_mem.mpr (show j ∈ is from z)] at this
      cases this
theorem sns_ret (he : PE X a (tE X.K g ia)) : PS X (.Return (some a) pos) (tS X.K g ks (.ret ia)) :=
  PS.imp (ps_ret he) fun D σ H hl ⟨Rt, env, A, rl, p⟩ => ⟨Rt, env, A, rl, PostS.seq p fun w e1 v H1 A1 B1 s1 o1 p1 => p1 v σ H1 A1 B1 Kp.refl s1 o1⟩
theorem sns_expr (he : PE X a (tE X.K g ia)) (hs : swapsWith a none pos.line X.env = pure false) : PS X (.Expr a pos) (tS X.K g ks (.expr ia)) :=
  PS.imp (ps_expr he hs) fun D σ H hl ⟨Rt, env, A, rl, p⟩ => ⟨Rt, env, A, rl, PostS.seq p fun w e1 v H1 A1 B1 s1 o1 p1 => p1 σ H1 A1 Kp.refl s1.drop0⟩
theorem sns_if {sa sb : List Stmt} (hc : PT X c (tT X.K g ja)) (ha : PSs X sa (tSs X.K g ks s1)) (hb : PSs X sb (tSs X.K g ks s2)) : PS X (.If c sa sb pos) (tS X.K g ks (.ife ja s1 s2)) :=
  PS.imp (ps_if hc ha hb) fun D σ H hl ⟨Rt, env, A, rl, p⟩ => by
    refine ⟨Rt, env, A, rl, PostS.seq p fun k e1 v H1 A1 B1 sx o1 p1 => ?_⟩
    obtain ⟨rfl, rfl⟩ := o1
    cases v with
    | true => rw [if_pos rfl]; exact ⟨Rt, e1, A1, sx.rl0, PostS.shift Kp.refl sx p1⟩
    | false => rw [if_neg (by decide)]; exact ⟨Rt, e1, A1, sx.rl0, PostS.shift Kp.refl sx p1⟩
theorem sns_retv (hN : X.N[i]? = some x) (hv : Vis X.env.scope x) (hd : (x == ("__debug__" : Str)) = false) (hcd : (x == ("__classdict__" : Str)) = false) : PS X (.Return (some (.Name x pos')) pos) (tS X.K g ks (.retv i)) :=
  PS.imp (ps_ret (pe_var hN hv hd hcd)) fun D σ H hl ⟨Rt, env, A, rl, p⟩ => by
    have p' : PostS X.K g ks Rt σ H A (match env[i]? with | some (some w) => .ok (.rt w) (env.set i none) | _ => .no) D := p
    cases e : env[i]? with
    | none => rw [e] at p'; exact p'.elim
    | some o =>
      cases o with
      | none => rw [e] at p'; exact p'.elim
      | some w =>
        rw [e] at p'
        have hi : i < env.length := (List.getElem?_eq_some_iff.mp e).1
        obtain ⟨A1, B, A2, eA, _, hw, hu⟩ := RE.slot env σ A i rl.re hi
        obtain ⟨v, ev, ow⟩ := hw w e
        subst eA
        have eqm : ∀ b, b ∈ (A1 ++ A2) ++ B ↔ b ∈ A1 ++ (B ++ A2) := fun b => by
          simp only [List.mem_append]
          constructor
          · rintro ((z | z) | z)
            · exact .inl z
            · exact .inr (.inr z)
            · exact .inr (.inl z)
          · rintro (z | z | z)
            · exact .inl (.inl z)
            · exact .inr z
            · exact .inl (.inr z)
        have suba : ∀ b, Av ((A1 ++ A2) ++ B) Rt b → Av (A1 ++ (B ++ A2)) Rt b := fun b z => z.imp (eqm b).mp id
        have re := (hu H (Av ((A1 ++ A2) ++ B) Rt) (fun _ _ q _ => q) (fun _ _ q => q) (fun b z => .inl (suba b z))).1 (some v)
        rw [set_same ev] at re
        have nd : ((A1 ++ A2) ++ B).Nodup := perm_nodup (by
          rw [List.perm_iff_count]
          intro a
          simp only [List.count_append]
          omega) rl.nd
        refine ⟨v, ev, p' v σ H (A1 ++ A2) B Kp.refl ⟨Go.refl.sub fun b hb => (eqm b).mp hb, nd, fun b hb => rl.rt b ((eqm b).mp hb), rl.th, fun b hb => ?_, re, rl.tb⟩ (Own.mono w v B (fun _ _ q _ => q) (fun _ _ q => q) (fun b z => .inl (suba b z)) ow)⟩
        obtain ⟨o, q, _⟩ := Own.there w v B ow b hb
        rw [q]; exact fun z => by cases z
end
end Ev
namespace Ev
open PySem L2
variable [WW]
section
variable {K : PySem.W.Frag} {Rt : Addr → Prop} {H H1 H2 : Hp} {σ σ' : St} {env env1 env2 : Env} {A A1 A2 B B' B1 B2 : List Addr} {w : W} {ws ws' : List W} {v y : V} {vs xs xs' : List V} {av : Addr → Prop} {i : Nat}
def OwnN (K : PySem.W.Frag) (H : Hp) (av : Addr → Prop) : W → HO → List Addr → Prop
  | .lst ws, o, D => ∃ xs, o = .lst xs ∧ OwnL K H av ws xs D
  | .nd n ws, o, D => ∃ xs, (NdO K n xs o ∧ n.free = true) ∧ OwnL K H av ws xs D
  | .val _, _, _ => False
  | .set _, _, _ => False
def W.node : W → Bool
  | .lst _ => true
  | .nd _ _ => true
  | _ => false
theorem Own.node {w : W} {v : V} {C : List Addr} (h : Own K H av w v C) (n : w.node = true) : ∃ a o D, v = .ref a ∧ C = a :: D ∧ H a = some o ∧ OwnN K H av w o D := by
  cases w with
  | val t => cases n
  | set t => cases n
  | lst ws =>
    obtain ⟨a, xs, D, e1, e2, ha, hl⟩ := h
    exact ⟨a, _, D, e1, e2, ha, xs, rfl, hl⟩
  | nd m ws =>
    obtain ⟨a, xs, o, D, e1, e2, ha, no, hl⟩ := h
    exact ⟨a, o, D, e1, e2, ha, xs, no, hl⟩
theorem OwnN.own {w : W} {o : HO} {a : Addr} {D : List Addr} (h : OwnN K H av w o D) (ha : H a = some o) : Own K H av w (.ref a) (a :: D) := by
  cases w with
  | val t => exact h.elim
  | set t => exact h.elim
  | lst ws =>
    obtain ⟨xs, rfl, hl⟩ := h
    exact ⟨a, xs, D, rfl, rfl, ha, hl⟩
  | nd m ws =>
    obtain ⟨xs, no, hl⟩ := h
    exact ⟨a, xs, o, D, rfl, rfl, ha, no, hl⟩
theorem OwnN.notup {w : W} {o : HO} {D : List Addr} (h : OwnN K H av w o D) : (∀ ys, o ≠ .tup ys) ∧ ∀ u ys, o ≠ .frz u ys := by
  cases w with
  | val t => exact h.elim
  | set t => exact h.elim
  | lst ws =>
    obtain ⟨xs, rfl, hl⟩ := h
    exact ⟨fun ys z => (by cases z), fun u ys z => (by cases z)⟩
  | nd m ws =>
    obtain ⟨xs, no, hl⟩ := h
    exact ⟨no.1.notup, no.1.nofrz⟩
theorem OwnN.nocode {w : W} {o : HO} {D : List Addr} (h : OwnN K H av w o D) (a : Addr) : ∀ q, o ≠ LamX.CodeO a q := by
  intro q z
  unfold LamX.CodeO at z
  cases w with
  | val t => exact h.elim
  | set t => exact h.elim
  | lst ws =>
    obtain ⟨xs, rfl, hl⟩ := h
    cases z
  | nd m ws =>
    obtain ⟨xs, no, hl⟩ := h
    exact no.1.noext _ z
theorem OwnN.notb {w : W} {o : HO} {D : List Addr} (h : OwnN K H av w o D) (a : Addr) : ∀ q, o ≠ .tbl q := by
  intro q z
  cases w with
  | val t => exact h.elim
  | set t => exact h.elim
  | lst ws =>
    obtain ⟨xs, rfl, hl⟩ := h
    cases z
  | nd m ws =>
    obtain ⟨xs, no, hl⟩ := h
    exact no.1.notbl _ z
theorem OwnN.mono {w : W} {o : HO} {D : List Addr} {H' : Hp} {av' : Addr → Prop} (h : OwnN K H av w o D) (keep : ∀ b o, KN H b o → (b ∈ D ∨ ¬ av b) → KN H' b o) (tups : ∀ b xs, Rd H b (.tup xs) → Rd H' b (.tup xs)) (hav : ∀ b, av' b → av b ∨ H b = none) : OwnN K H' av' w o D := by
  cases w with
  | val t => exact h.elim
  | set t => exact h.elim
  | lst ws =>
    obtain ⟨xs, e, hl⟩ := h
    exact ⟨xs, e, OwnL.mono ws xs D keep tups hav hl⟩
  | nd m ws =>
    obtain ⟨xs, no, hl⟩ := h
    exact ⟨xs, no, OwnL.mono ws xs D keep tups hav hl⟩
theorem Sx.mutG (s : Sx K Rt σ H A H1 env A1 B) (hi : env[i]? = some (some w)) (hn : w.node = true) : ∃ a o D, σ[i]? = some (some (.ref a)) ∧ H1 a = some o ∧ OwnN K H1 (Av (A1 ++ B) Rt) w o D ∧
    ∀ w' o' D' B', OwnN K H1 (Av (A1 ++ B) Rt) w' o' D' → (∀ b, (D' ++ B').count b ≤ (D ++ B).count b) → ∃ A', Sx K Rt σ H A (upd H1 a o') (env.set i (some w')) A' B' ∧
      ∀ u y C, (∀ b ∈ C, b ∈ B') → Own K H1 (Av (A1 ++ B) Rt) u y C → Own K (upd H1 a o') (Av (A' ++ B') Rt) u y C := by
  obtain ⟨C1, Bo, C2, eA, _, hw, hu⟩ := RE.slot env σ A1 i s.re (List.getElem?_eq_some_iff.mp hi).1
  obtain ⟨v, ev, ow0⟩ := hw _ hi
  obtain ⟨a, o, D, e1, e2, ha, on⟩ := ow0.node hn
  subst e1 e2 eA
  refine ⟨a, o, D, ev, ha, on, fun w' o' D' B' ow cn => ?_⟩
  have cnt : ∀ b, ((C1 ++ ((a :: D') ++ C2)) ++ B').count b ≤ ((C1 ++ ((a :: D) ++ C2)) ++ B).count b := fun b => by
    have := cn b
    simp only [List.count_append, List.count_cons] at this ⊢
    omega
  have nd : ((C1 ++ ((a :: D') ++ C2)) ++ B').Nodup := List.nodup_iff_count.mpr fun b => Nat.le_trans (cnt b) (List.nodup_iff_count.mp s.nd b)
  have sub : ∀ b ∈ (C1 ++ ((a :: D') ++ C2)) ++ B', b ∈ (C1 ++ ((a :: D) ++ C2)) ++ B := fun b hb => List.count_pos_iff.mp (Nat.lt_of_lt_of_le (List.count_pos_iff.mpr hb) (cnt b))
  have suba : ∀ b, Av ((C1 ++ ((a :: D') ++ C2)) ++ B') Rt b → Av ((C1 ++ ((a :: D) ++ C2)) ++ B) Rt b := fun b z => z.imp (sub b) id
  have ain : a ∈ (C1 ++ ((a :: D) ++ C2)) ++ B := List.mem_append_left _ (List.mem_append_right _ (List.mem_append_left _ List.mem_cons_self))
  have ava : Av ((C1 ++ ((a :: D) ++ C2)) ++ B) Rt a := .inl ain
  have lD : ∀ xs', ¬ Rd H1 a (.tup xs') := fun xs' z => by
    rcases z with z | ⟨u, z⟩
    · rw [ha] at z; exact on.notup.1 _ (Option.some.inj z)
    · rw [ha] at z; exact on.notup.2 _ _ (Option.some.inj z)
  have tup' : ∀ b xs, Rd H1 b (.tup xs) → Rd (upd H1 a o') b (.tup xs) := fun b xs q => by
    have ne : b ≠ a := fun z => by subst z; exact lD xs q
    exact Rd.mono q fun u q => by first | exact KN.put ne q | (rw [upd_ne ne]; exact q)
  have nd1 : ∀ b, b ∈ C1 ++ C2 ∨ b ∈ D' ∨ b ∈ B' → b ≠ a := fun b hb z => by
    subst z
    have h1 := List.nodup_iff_count.mp nd b
    have h2 : 0 < (C1 ++ C2).count b ∨ 0 < D'.count b ∨ 0 < B'.count b := hb.imp List.count_pos_iff.mpr (Or.imp List.count_pos_iff.mpr List.count_pos_iff.mpr)
    simp only [List.count_append, List.count_cons, beq_self_eq_true, if_true] at h1 h2
    omega
  refine ⟨C1 ++ ((a :: D') ++ C2), ⟨(s.go.put (s.go.new a ain) lD (fun q z => by rw [ha] at z; exact on.nocode a q (Option.some.inj z))).sub sub, nd, fun b hb => s.rt b (sub b hb), fun b z => ?_, fun b hb => ?_, ?_, s.tb.put (fun ps z => by rw [ha] at z; exact on.notb a ps (Option.some.inj z)) (fun q z => by rw [ha] at z; exact on.nocode a q (Option.some.inj z))⟩, fun u y C hC ou => ?_⟩
  · by_cases e : b = a
    · subst e; rw [upd_same]; exact fun q => by cases q
    · rw [upd_ne e]; exact s.th b z
  · rw [upd_ne (nd1 b (.inr (.inr hb)))]
    have hb2 := sub b (List.mem_append_right _ hb)
    rcases List.mem_append.mp hb2 with z | z
    · obtain ⟨o, q, _⟩ := RE.there _ _ _ s.re b z
      rw [q]; exact fun z => by cases z
    · exact s.bth b z
  · have := (hu (upd H1 a o') (Av ((C1 ++ ((a :: D') ++ C2)) ++ B') Rt) (fun b o q c => by
      have ne : b ≠ a := fun z => by
        rcases c with c | c
        · exact nd1 b (.inl c) z
        · exact c (by rw [z]; exact ava)
      first | exact KN.put ne q | (rw [upd_ne ne]; exact q)) tup' (fun b z => .inl (suba b z))).2 w' (.ref a) (a :: D') (OwnN.own (OwnN.mono ow (fun b o q c => by
        have ne : b ≠ a := fun z => by
          rcases c with c | c
          · exact nd1 b (.inr (.inl c)) z
          · exact c (by rw [z]; exact ava)
        first | exact KN.put ne q | (rw [upd_ne ne]; exact q)) tup' (fun b z => .inl (suba b z))) upd_same)
    rw [set_same ev] at this
    exact this
  · exact Own.mono u y C (fun b o q c => by
      have ne : b ≠ a := fun z => by
        rcases c with c | c
        · exact nd1 b (.inr (.inr (hC b c))) z
        · exact c (by rw [z]; exact ava)
      first | exact KN.put ne q | (rw [upd_ne ne]; exact q)) tup' (fun b z => .inl (suba b z)) ou
theorem Sx.mut (s : Sx K Rt σ H A H1 env A1 B) (hi : env[i]? = some (some (.lst ws))) : ∃ a xs D, σ[i]? = some (some (.ref a)) ∧ H1 a = some (.lst xs) ∧ OwnL K H1 (Av (A1 ++ B) Rt) ws xs D ∧
    ∀ ws' xs' D', OwnL K H1 (Av (A1 ++ B) Rt) ws' xs' D' → (∀ b, D'.count b ≤ (D ++ B).count b) → ∃ A', Sx K Rt σ H A (upd H1 a (.lst xs')) (env.set i (some (.lst ws'))) A' [] := by
  obtain ⟨a, o, D, ev, ha, ⟨xs, rfl, hl⟩, k⟩ := s.mutG hi rfl
  refine ⟨a, xs, D, ev, ha, hl, fun ws' xs' D' ow cn => ?_⟩
  obtain ⟨A', s', _⟩ := k (.lst ws') (.lst xs') D' [] ⟨xs', rfl, ow⟩ fun b => by rw [List.append_nil]; exact cn b
  exact ⟨A', s'⟩
theorem putN_mem {κ : Type} [DecidableEq κ] : ∀ (ks : List κ) (j x : κ), x ∈ putN ks j ↔ x ∈ ks ∨ x = j
  | [], j, x => by simp [putN]
  | k :: ks, j, x => by
    unfold putN
    by_cases c : k = j
    · rw [if_pos c, List.mem_cons]
      exact ⟨.inl, fun h => h.elim id fun e => .inl (e.trans c.symm)⟩
    · rw [if_neg c, List.mem_cons, List.mem_cons, putN_mem ks j x, or_assoc]
theorem putN_nodup {κ : Type} [DecidableEq κ] : ∀ (ks : List κ) (j : κ), ks.Nodup → (putN ks j).Nodup
  | [], j, _ => by simp [putN]
  | k :: ks, j, nd => by
    unfold putN
    by_cases c : k = j
    · rw [if_pos c]; exact nd
    · rw [if_neg c]
      obtain ⟨n1, n2⟩ := List.nodup_cons.mp nd
      refine List.nodup_cons.mpr ⟨fun z => ?_, putN_nodup ks j n2⟩
      rcases (putN_mem ks j k).mp z with z | z
      · exact n1 z
      · exact c z
theorem putK_map {κ : Type} [DecidableEq κ] (j : κ) (v : V) : ∀ (kvs : List (κ × V)), (kvs.map (·.1)).Nodup → (putK kvs j v).map (·.1) = putN (kvs.map (·.1)) j ∧ (putK kvs j v).map (·.2) = putV (kvs.map (·.1)) (kvs.map (·.2)) j v
  | [], _ => ⟨rfl, rfl⟩
  | p :: r, nd => by
    obtain ⟨n1, n2⟩ := List.nodup_cons.mp (show (p.1 :: r.map (·.1)).Nodup from nd)
    have ih := putK_map j v r n2
    by_cases c : p.1 = j
    · have e : putK (p :: r) j v = (p.1, v) :: r := by
        unfold putK
        rw [if_pos (by simp [c])]
        rw [List.map_cons, if_pos c]
        refine congrArg _ ?_
        have : ∀ q ∈ r, (fun kv : κ × V => if kv.1 = j then (kv.1, v) else kv) q = q := fun q hq => by
          show (if q.1 = j then (q.1, v) else q) = q
          rw [if_neg fun z => n1 (by rw [c, ← z]; exact List.mem_map.mpr ⟨q, hq, rfl⟩)]
        rw [List.map_congr_left this, List.map_id']
      rw [e]
      refine ⟨?_, ?_⟩
      · show p.1 :: r.map (·.1) = (if p.1 = j then p.1 :: r.map (·.1) else _)
        rw [if_pos c]
      · show v :: r.map (·.2) = (if p.1 = j then v :: r.map (·.2) else _)
        rw [if_pos c]
    · have e : putK (p :: r) j v = p :: putK r j v := by
        unfold putK
        have a : ((p :: r).any fun kv => decide (kv.1 = j)) = (r.any fun kv => decide (kv.1 = j)) := by
          show (decide (p.1 = j) || _) = _
          rw [decide_eq_false c]; rfl
        rw [a]
        by_cases d : (r.any fun kv => decide (kv.1 = j)) = true
        · rw [if_pos d, if_pos d, List.map_cons, if_neg c]
        · rw [if_neg d, if_neg d]; rfl
      rw [e]
      refine ⟨?_, ?_⟩
      · show p.1 :: (putK r j v).map (·.1) = (if p.1 = j then p.1 :: r.map (·.1) else p.1 :: putN (r.map (·.1)) j)
        rw [if_neg c, ih.1]
      · show p.2 :: (putK r j v).map (·.2) = (if p.1 = j then v :: r.map (·.2) else p.2 :: putV (r.map (·.1)) (r.map (·.2)) j v)
        rw [if_neg c, ih.2]
theorem OwnL.putV {κ : Type} [DecidableEq κ] (j : κ) (ow : Own K H1 av w y B) : ∀ (ns : List κ) (ws : List W) (xs : List V) (D : List Addr), ns.length = ws.length → OwnL K H1 av ws xs D → ∃ D', OwnL K H1 av (Ev.putV ns ws j w) (Ev.putV ns xs j y) D' ∧ ∀ b, D'.count b ≤ (D ++ B).count b
  | [], [], xs, D, _, h => by
    obtain ⟨rfl, rfl⟩ := h
    exact ⟨B, ⟨y, [], B, [], rfl, by simp, ow, rfl, rfl⟩, fun b => by simp⟩
  | n :: ns, u :: ws, xs, D, hl, h => by
    obtain ⟨v, r, D1, D2, rfl, rfl, h1, h2⟩ := h
    by_cases c : n = j
    · refine ⟨B ++ D2, ?_, fun b => ?_⟩
      · show OwnL K H1 av (if n = j then w :: ws else _) (if n = j then y :: r else _) _
        rw [if_pos c, if_pos c]
        exact ⟨y, r, B, D2, rfl, rfl, ow, h2⟩
      · simp only [List.count_append]
        omega
    · obtain ⟨D', q, cn⟩ := OwnL.putV j ow ns ws r D2 (by simpa using hl) h2
      refine ⟨D1 ++ D', ?_, fun b => ?_⟩
      · show OwnL K H1 av (if n = j then _ else u :: Ev.putV ns ws j w) (if n = j then _ else v :: Ev.putV ns r j y) _
        rw [if_neg c, if_neg c]
        exact ⟨v, _, D1, D', rfl, rfl, h1, q⟩
      · have := cn b
        simp only [List.count_append] at this ⊢
        omega
  | [], _ :: _, _, _, hl, _ => by cases hl
  | _ :: _, [], _, _, hl, _ => by cases hl
theorem OwnL.setN : ∀ (ws : List W) (xs : List V) (D : List Addr) (n : Nat), n < ws.length → OwnL K H1 av ws xs D → Own K H1 av w y B → ∃ D', OwnL K H1 av (ws.set n w) (xs.set n y) D' ∧ ∀ b, D'.count b ≤ (D ++ B).count b
  | [], _, _, _, h, _, _ => absurd h (Nat.not_lt_zero _)
  | u :: ws, xs, D, 0, _, h, ow => by
    obtain ⟨v, r, D1, D2, rfl, rfl, h1, h2⟩ := h
    refine ⟨B ++ D2, ⟨y, r, B, D2, rfl, rfl, ow, h2⟩, fun b => ?_⟩
    simp only [List.count_append]
    omega
  | u :: ws, xs, D, n + 1, hn, h, ow => by
    obtain ⟨v, r, D1, D2, rfl, rfl, h1, h2⟩ := h
    obtain ⟨D', q, c⟩ := OwnL.setN ws r D2 n (by simpa using hn) h2 ow
    refine ⟨D1 ++ D', ⟨v, r.set n y, D1, D', rfl, rfl, h1, q⟩, fun b => ?_⟩
    have := c b
    simp only [List.count_append] at this ⊢
    omega
end
section
variable {X : Cx} {g : Cfg} {ks : List Nat} {pos pos' : Pos} {a b c : Expr} {ia ib ic : E} {i : Nat} {x : Str} {st : Stmt} {rest : List Stmt} {s : S} {ss : Ss}
theorem lst_slot {K : PySem.W.Frag} {Rt : Addr → Prop} {H : Hp} {σ : St} {env : Env} {A : List Addr} {ws : List W} (re : RE K H (Av A Rt) env σ A) (e : env[i]? = some (some (.lst ws))) : ∃ a xs, σ[i]? = some (some (.ref a)) ∧ H a = some (.lst xs) := by
  obtain ⟨_, _, _, _, _, hw, _⟩ := RE.slot env σ A i re (List.getElem?_eq_some_iff.mp e).1
  obtain ⟨v, ev, a, xs, D, e1, e2, ha, hl⟩ := hw _ e
  subst e1
  exact ⟨a, xs, ev, ha⟩
theorem sns_app {apos cpos : Pos} (hN : X.N[i]? = some x) (hv : Vis X.env.scope x) (hd : (x == ("__debug__" : Str)) = false) (hcd : (x == ("__classdict__" : Str)) = false) (he : PE X a (tE X.K g ia))
    (hbase : attributeBase (.Name x pos') "append" X.env (eval (.Name x pos') X.env) = eval (.Name x pos') X.env)
    (hfew : ((backTo cpos (starEach [a] X.env)).all (fun x => !x.1) && (backToKw cpos (keywordEach [] X.env)).all (fun x => x.1.isSome)
      && decide ([a].length + ([] : List Keyword).length + (if ([] : List Keyword).isEmpty then 0 else 1) < 30)) = true)
    (hline : (apos.endLine == cpos.line) = true) (hs : starEach [a] X.env = [(false, eval a X.env)])
    (hsw : swapsWith (.Call (.Attribute (.Name x pos') "append" apos) [a] [] cpos) none pos.line X.env = pure false) : PS X (.Expr (.Call (.Attribute (.Name x pos') "append" apos) [a] [] cpos) pos) (tS X.K g ks (.app i ia)) :=
  PS.imp (ps_expr (pe_bm PySem.F.plainAttrs_list PySem.F.slot_list_append PySem.F.type_list_append mt_append (pe_var hN hv hd hcd) (pa_cons he pa_nil hs) hbase hfew hline hs rfl) hsw) fun D σ H hl ⟨Rt, env, A, rl, p⟩ => by
    have p0 : PostS X.K g ks Rt σ H A (match env[i]? with
      | some (some (.lst _)) => (evE g.G g.C ia env).bind fun w env1 => (match env1[i]? with
        | some (some (.lst ws)) => if decide (ws.length < 16777216) = true then .ok .nx (env1.set i (some (.lst (ws ++ [w])))) else .no
        | _ => .no)
      | _ => .no) D := p
    cases e : env[i]? with
    | none => rw [e] at p0; exact p0.elim
    | some o =>
    cases o with
    | none => rw [e] at p0; exact p0.elim
    | some w0 =>
    cases w0 with
    | val t => rw [e] at p0; exact p0.elim
    | set t => rw [e] at p0; exact p0.elim
    | nd _ _ => rw [e] at p0; exact p0.elim
    | lst ws0 =>
      rw [e] at p0
      obtain ⟨q, xs0, eq, hq⟩ := lst_slot rl.re e
      refine ⟨.ref q, eq, .inl ⟨rfl, xs0, SqL.of hq⟩, Rt, env, A, rl, PostS.seq p0 fun w e1 v H1 A1 B1 s1 o1 p1 => ?_⟩
      cases e' : e1[i]? with
      | none => rw [e'] at p1; exact p1.elim
      | some o =>
      cases o with
      | none => rw [e'] at p1; exact p1.elim
      | some w0 =>
      cases w0 with
      | val t => rw [e'] at p1; exact p1.elim
      | set t => rw [e'] at p1; exact p1.elim
      | nd _ _ => rw [e'] at p1; exact p1.elim
      | lst ws =>
        rw [e'] at p1
        have p2 : PostS X.K g ks Rt σ H A (if decide (ws.length < 16777216) = true then .ok .nx (e1.set i (some (.lst (ws ++ [w])))) else .no) D := p1
        by_cases c : decide (ws.length < 16777216) = true
        · rw [if_pos c] at p2
          obtain ⟨a', xs, D', ea, hx, ow, mk⟩ := s1.mut e'
          rw [eq] at ea
          cases ea
          obtain ⟨A', s2⟩ := mk (ws ++ [w]) (xs ++ [v]) (D' ++ B1) (OwnL.snoc ws xs D' ow o1) fun b => Nat.le_refl _
          exact ⟨q, xs, v, rfl, rfl, hx, by rw [sizeLine_eq, ← OwnL.len ws xs D' ow]; exact of_decide_eq_true c, p2 σ _ A' Kp.refl s2⟩
        · rw [if_neg c] at p2; exact p2.elim
theorem nd_slot {K : PySem.W.Frag} {Rt : Addr → Prop} {H : Hp} {σ : St} {env : Env} {A : List Addr} {w : W} (re : RE K H (Av A Rt) env σ A) (e : env[i]? = some (some w)) (hn : w.node = true) : ∃ a o D, σ[i]? = some (some (.ref a)) ∧ H a = some o ∧ OwnN K H (Av A Rt) w o D := by
  obtain ⟨_, _, _, _, _, hw, _⟩ := RE.slot env σ A i re (List.getElem?_eq_some_iff.mp e).1
  obtain ⟨v, ev, ow⟩ := hw _ e
  obtain ⟨a, o, D, rfl, _, ha, on⟩ := ow.node hn
  exact ⟨a, o, D, ev, ha, on⟩
theorem set_or {r1 r2 : V → V → V → Hp → (Hp → Prop) → Prop} (h1 : PSet X r1) (h2 : PSet X r2) : PSet X fun o i v H Q => r1 o i v H Q ∨ r2 o i v H Q := by
  unfold PSet at *
  intro pins s σ H o i v ov iv u Q I ro ri rv h
  rcases h with h | h
  · exact h1 pins s σ H o i v ov iv u Q I ro ri rv h
  · exact h2 pins s σ H o i v ov iv u Q I ro ri rv h
theorem key_w {K : PySem.W.Frag} {H : Hp} {av : Addr → Prop} {w : W} {v : V} {B : List Addr} {k : Key} (e : keyT w.fz = some k) (ow : Own K H av w v B) : v = kV k ∧ B = [] := by
  cases w with
  | val t => exact ⟨key_fz ow.2 e, ow.1⟩
  | lst ws => cases (show none = some k from e)
  | nd n ws => cases (show none = some k from e)
  | set ts => cases (show none = some k from e)
theorem sns_setx {tpos : Pos} (hu : X.A.units + 64 < cLine) (hN : X.N[i]? = some x) (hv : Vis X.env.scope x) (hd : (x == ("__debug__" : Str)) = false) (hcd : (x == ("__classdict__" : Str)) = false) (hb : PE X b (tE X.K g ib)) (he : PE X a (tE X.K g ia))
    (hsb : ∀ v, assign (.Subscript (.Name x pos') b tpos) X.env v = (do
      let ov ← holding [v] (eval (.Name x pos') X.env)
      let iv ← holding [v, ov] (eval b X.env)
      standAt tpos
      holding [v, ov, iv] (setItem ov iv v)
      release [v, ov, iv] []))
    (hs : swapsWithSole [.Subscript (.Name x pos') b tpos] a pos.line X.env = pure false) (hw : swappedStores [.Subscript (.Name x pos') b tpos] a X.env = pure none)
    (h1 : (assignEach [.Subscript (.Name x pos') b tpos] X.env).map (·.2) = [assign (.Subscript (.Name x pos') b tpos) X.env]) : PS X (.Assign [.Subscript (.Name x pos') b tpos] a pos) (tS X.K g ks (.setx i ib ia)) :=
  PS.imp (ps_asg he (pg_sub (pe_var hN hv hd hcd) hb (set_or set_list (set_dict (by omega))) hsb) hs hw h1) fun D σ H hl ⟨Rt, env, A, rl, p⟩ => by
    refine ⟨Rt, env, A, rl, PostS.seq p fun w e1 v H1 A1 B1 s1 o1 p0 => ?_⟩
    have no : ∀ {r : R F}, r = .no → PostS X.K g ks Rt σ H A r D → False := fun e h => by rw [e] at h; exact h
    cases e : e1[i]? with
    | none => exact (no (by simp only [e]) p0).elim
    | some o =>
    cases o with
    | none => exact (no (by simp only [e]) p0).elim
    | some w0 =>
    cases w0 with
    | val t => exact (no (by simp only [e]) p0).elim
    | set t => exact (no (by simp only [e]) p0).elim
    | nd n ws0 =>
      cases n with
      | dcl _ => exact (no (by simp only [e]) p0).elim
      | ins _ _ => exact (no (by simp only [e]) p0).elim
      | dct ks0 =>
        rw [e] at p0
        have p1 : PostS X.K g ks Rt σ H A ((evE g.G g.C ib e1).bind fun y env2 => (match env2[i]?, keyT y.fz with
          | some (some (.nd (.dct ks) ws)), some j => if decide (ks.length < 16777216) = true then .ok .nx (env2.set i (some (.nd (.dct (putN ks j)) (putV ks ws j w)))) else .no
          | _, _ => .no)) D := p0
        obtain ⟨q, o0, _, eq, hq, _⟩ := nd_slot (Rt := RtB B1 Rt) (A := A1) s1.rl.re e rfl
        refine ⟨.ref q, eq, RtB B1 Rt, e1, A1, s1.rl, PostS.seq2 s1 p1 fun y e2 v2 H2 A2 B2 s2 o2 p2 => ?_⟩
        have s3 := s1.next s2
        have w1 := s1.own s2 o1
        cases ek : keyT y.fz with
        | none => exact (no (by cases e2[i]? <;> simp only [ek]) p2).elim
        | some j =>
        obtain ⟨ev2, eB⟩ := key_w ek o2
        cases e' : e2[i]? with
        | none => exact (no (by simp only [e']) p2).elim
        | some o =>
        cases o with
        | none => exact (no (by simp only [e']) p2).elim
        | some w0 =>
        cases w0 with
        | val t => exact (no (by simp only [e']) p2).elim
        | set t => exact (no (by simp only [e']) p2).elim
        | lst t => exact (no (by simp only [e']) p2).elim
        | nd n ws =>
          cases n with
          | dcl _ => exact (no (by simp only [e']) p2).elim
          | ins _ _ => exact (no (by simp only [e']) p2).elim
          | dct js =>
            have p3 : PostS X.K g ks Rt σ H A (if decide (js.length < 16777216) = true then .ok .nx (e2.set i (some (.nd (.dct (putN js j)) (putV js ws j w)))) else .no) D := by
              simp only [e', ek] at p2
              exact p2
            by_cases c : decide (js.length < 16777216) = true
            · rw [if_pos c] at p3
              subst eB
              rw [List.append_nil] at s3 w1
              obtain ⟨a', o', D', ea, hx, ⟨xs, ⟨⟨kvs, eo, f1, f2, nd⟩, _⟩, hl'⟩, mk⟩ := s3.mutG e' rfl
              subst eo
              rw [eq] at ea
              cases ea
              have lk : js.length = kvs.length := by rw [← f1, List.length_map]
              have pm := putK_map j v kvs (by rw [f1]; exact nd)
              have jl : js.length = ws.length := by rw [OwnL.len ws xs D' hl', ← f2, List.length_map]; exact lk
              obtain ⟨D2, q1, q2⟩ := OwnL.putV j w1 js ws xs D' jl hl'
              obtain ⟨A', s4, _⟩ := mk (.nd (.dct (putN js j)) (putV js ws j w)) (.dK (putK kvs j v)) D2 [] ⟨Ev.putV js xs j v, ⟨⟨_, rfl, by rw [pm.1, f1], by rw [pm.2, f1, f2], putN_nodup js j nd⟩, rfl⟩, q1⟩ fun b => by rw [List.append_nil]; exact q2 b
              exact .inr ⟨q, _, rfl, .inl ⟨kvs, j, hx, ev2, by rw [sizeLine_eq, ← lk]; exact of_decide_eq_true c, rfl⟩, p3 σ _ A' Kp.refl s4⟩
            · rw [if_neg c] at p3; exact p3.elim
    | lst ws0 =>
      rw [e] at p0
      have p1 : PostS X.K g ks Rt σ H A ((evE g.G g.C ib e1).bind fun y env2 => (match env2[i]? with
        | some (some (.lst ws)) => (match y.fz with
          | .int j => (match L2.ixN ws.length j with
            | some n => .ok .nx (env2.set i (some (.lst (ws.set n w))))
            | none => .no)
          | _ => .no)
        | _ => .no)) D := p0
      obtain ⟨q, xs0, eq, hq⟩ := lst_slot (Rt := RtB B1 Rt) (A := A1) s1.rl.re e
      refine ⟨.ref q, eq, RtB B1 Rt, e1, A1, s1.rl, PostS.seq2 s1 p1 fun y e2 v2 H2 A2 B2 s2 o2 p2 => ?_⟩
      have s3 := s1.next s2
      have w1 := s1.own s2 o1
      have w2 := Sx.own2 (B1 := B1) o2
      cases e' : e2[i]? with
      | none => rw [e'] at p2; exact p2.elim
      | some o =>
      cases o with
      | none => rw [e'] at p2; exact p2.elim
      | some w0 =>
      cases w0 with
      | val t => rw [e'] at p2; exact p2.elim
      | set t => rw [e'] at p2; exact p2.elim
      | nd _ _ => rw [e'] at p2; exact p2.elim
      | lst ws =>
        rw [e'] at p2
        cases ey : y.fz with
        | int j =>
          simp only [ey] at p2
          cases en : L2.ixN ws.length j with
          | none => rw [en] at p2; exact p2.elim
          | some n =>
            rw [en] at p2
            have eB := fzo_int ey o2
            subst eB
            rw [List.append_nil] at s3 w1
            obtain ⟨a', xs, D', ea, hx, ow, mk⟩ := s3.mut e'
            rw [eq] at ea
            cases ea
            have hlen := OwnL.len ws xs D' ow
            have hn : n < ws.length := (ixN_seq en).2.1
            obtain ⟨D2, q1, q2⟩ := OwnL.setN ws xs D' n hn ow w1
            obtain ⟨A', s4⟩ := mk _ _ D2 q1 q2
            exact .inl ⟨q, xs, j, n, rfl, fz_int ey o2, hx, by rw [← hlen]; exact en, p2 σ _ A' Kp.refl s4⟩
        | _ => simp only [ey] at p2; exact p2.elim
theorem sns_for {tg iter : Expr} {body : List Stmt} {tgi : Tg} {it : Ev.It} {sb : Ss} (hp : PassesOwn (model X.prog X.w) X.A X.env X.xe) (hc : X.calm = true) (hi : PI X tg iter (tI X.K g it)) (hg : PG X tg (gT X.K tgi)) (hb : PSs X body (tSs X.K g ks sb))
    (hlen : ∀ i ∈ tgs tgi, i < X.N.length) (hk : ∀ j ∈ ks, (tgs tgi).contains j = false) (hs : ∀ x, foldedSetIterable iter X.env x = pure x) : PS X (.For tg iter body [] pos) (tS X.K g ks (.for_ tgi it sb)) :=
  PS.imp (ps_for hp hc hi hg hb hs) fun D σ H hl ⟨Rt, env, A, rl, p⟩ => by
    refine ⟨Rt, env, A, rl, PostS.seq p fun ts e1 J H1 A1 B1 s1 o1 p1 => ?_⟩
    obtain ⟨rfl, P, jt, pP⟩ := o1
    have kd : ∀ j ∈ ks, j ∉ tgs tgi := fun j hj z => by
      have := hk j hj
      rw [List.contains_iff_mem.mpr z] at this
      cases this
    let Wi : Nat → St → Hp → Prop := fun i σ' H' => ∃ envi Ai, Kp ks σ σ' ∧ Sx X.K Rt σ' H A H' envi Ai [] ∧ P H' (Av (Ai ++ []) Rt) ∧ σ'.length = X.N.length ∧ PostS X.K g ks Rt σ H A (forL tgi (evSs g.G g.C sb) (ts.drop i) envi) D
    refine ⟨fun i m σ' H' => m = ts.length - i ∧ i ≤ ts.length ∧ Wi i σ' H', ⟨ts.length, by simp, Nat.zero_le _, e1, A1, Kp.refl, s1, pP, hl, by simpa using p1⟩, ?_⟩
    rintro i m σ' H' ⟨rfl, hile, envi, Ai, kp, sx, pH, hl', po⟩
    by_cases hlt : i < ts.length
    · have et : ts.drop i = ts[i] :: ts.drop (i + 1) := List.drop_eq_getElem_cons hlt
      have gi : ts[i]? = some ts[i] := List.getElem?_eq_getElem hlt
      rw [et] at po
      have po1 : PostS X.K g ks Rt σ H A (match tgE tgi ts[i] envi with
        | none => .no
        | some env1 => (evSs g.G g.C sb env1).bind fun f env2 => match f with
          | .nx => forL tgi (evSs g.G g.C sb) (ts.drop (i + 1)) env2
          | .ct => forL tgi (evSs g.G g.C sb) (ts.drop (i + 1)) env2
          | .bk => .ok .nx env2
          | .rt w => .ok (.rt w) env2) D := po
      cases etg : tgE tgi ts[i] envi with
      | none => rw [etg] at po1; exact po1.elim
      | some env1 =>
      rw [etg] at po1
      have po2 : PostS X.K g ks Rt σ H A ((evSs g.G g.C sb env1).bind fun f env2 => match f with
          | .nx => forL tgi (evSs g.G g.C sb) (ts.drop (i + 1)) env2
          | .ct => forL tgi (evSs g.G g.C sb) (ts.drop (i + 1)) env2
          | .bk => .ok .nx env2
          | .rt w => .ok (.rt w) env2) D := po1
      refine .inr ⟨jt.go H' _ i _ pH gi, Wi (i + 1), fun σ2 H2 w => ⟨ts.length - (i + 1), by omega, rfl, hlt, w⟩, fun x Hy y => ?_⟩
      obtain ⟨ext, fx⟩ := jt.yld H' _ i _ x Hy pH gi y
      have sx1 := sx.ext ext
      have pH1 : P Hy (Av (Ai ++ []) Rt) := jt.mono _ _ _ _ pH (fun b o q _ => q.up ext) (fun b xs q => Rd.mono q fun o q => ext b o q) (fun b z => .inl z)
      have elen : envi.length = X.N.length := by rw [RE.len _ _ _ sx.re, hl']
      have fx1 : Fz X.K Hy (Av Ai Rt) ts[i] x := by rw [List.append_nil] at fx; exact fx
      refine tg_ok tgi (fun j hj => by rw [elen]; exact hlen j hj) sx1.rl0 fx1 etg fun σ2 A2 sub rl2 kσ => ?_
      have l2 : σ2.length = X.N.length := by rw [← RE.len _ _ _ rl2.re, tgE_len etg, elen]
      have kp2 : Kp ks σ σ2 := kp.trans ⟨l2.trans hl'.symm, fun j hj => kσ j (kd j hj)⟩
      have sxT : Sx X.K Rt σ2 H A Hy env1 A2 [] := sx1.retg (by rw [show RtB [] Rt = Rt from funext fun b => propext (rtB_nil b)]; exact rl2) sub
      have pT : P Hy (Av (A2 ++ []) Rt) := jt.mono _ _ _ _ pH1 (fun _ _ q _ => q) (fun _ _ q => q) (fun b z => .inl (by
        rw [List.append_nil] at z ⊢
        exact z.imp (sub b) id))
      refine ⟨Rt, env1, A2, rl2, ?_⟩
      have again : ∀ env2 σ3 H3 A3, Kp ks σ2 σ3 → Sx X.K Rt σ3 Hy A2 H3 env2 A3 [] → PostS X.K g ks Rt σ H A (forL tgi (evSs g.G g.C sb) (ts.drop (i + 1)) env2) D → Wi (i + 1) σ3 H3 := fun env2 σ3 H3 A3 k3 s3 po3 => by
        have s3' : Sx X.K (RtB [] Rt) σ3 Hy A2 H3 env2 A3 [] := s3.rt0 rtB_nil
        have p3 := sxT.nextP jt s3' pT
        exact ⟨env2, A3, kp2.trans k3, sxT.next0 s3, p3, k3.1.trans l2, po3⟩
      cases eb : evSs g.G g.C sb env1 with
      | no => rw [eb] at po2; exact po2.elim
      | exc c t env2 =>
        rw [eb] at po2
        exact fun cls d σ3 H3 A3 k3 s3 px => po2 cls d σ3 H3 A3 (kp2.trans k3) (sxT.next0 s3) px
      | ok f env2 =>
        rw [eb] at po2
        cases f with
        | nx => exact fun σ3 H3 A3 k3 s3 => again env2 σ3 H3 A3 k3 s3 po2
        | ct => exact fun σ3 H3 A3 k3 s3 => again env2 σ3 H3 A3 k3 s3 po2
        | bk => exact fun σ3 H3 A3 k3 s3 => po2 σ3 H3 A3 (kp2.trans k3) (sxT.next0 s3)
        | rt w => exact fun v σ3 H3 A3 B3 k3 s3 ow => po2 v σ3 H3 A3 B3 (kp2.trans k3) (sxT.next0 s3) ow
    · have ei : i = ts.length := by omega
      subst ei
      rw [List.drop_length] at po
      exact .inl ⟨jt.stop H' _ _ pH (Nat.le_refl _), po σ' H' Ai kp sx⟩
end
end Ev
namespace Ev
open PySem L2
variable [WW]
structure Room (k : Nat) (A : Around) : Prop extends L2.Room k A where
  gd : A.guards = some []
theorem Room.mono {j k : Nat} {A : Around} (r : Room k A) (h : j ≤ k) : Room j A := ⟨r.toRoom.mono h, r.gd⟩
theorem Room.deeper {k : Nat} {A : Around} (r : Room (k + 1) A) (env : PySem.Env) : Room k (A.deeper env) := ⟨r.toRoom.deeper env, r.gd⟩
theorem Room.in1 {k : Nat} {A : Around} (r : Room (k + 1) A) : Room k A.in1 := ⟨r.toRoom.in1, r.gd⟩
theorem Room.depth {k : Nat} {A : Around} (r : Room k A) : A.depth < recursionLimit := r.toRoom.depth
theorem Room.units {k : Nat} {A : Around} (r : Room k A) : A.units + 64 < cLine := r.toRoom.units
theorem Room.units0 {k : Nat} {A : Around} (r : Room k A) : A.units < cLine := r.toRoom.units0
structure FnOk (P : Program) (w : World) (K : PySem.W.Frag) (mg : Str → Option Value) (base : Heap) (CX : CXT) (k : Nat) (f : Addr) (fd : FuncData) (ps : List Str) (sp : Sp) : Prop where
  len : ∀ vs H Q E, sp vs H Q E → vs.length = ps.length
  run : ∀ (A : Around) (outer : List PySem.Env) (s : Shared) (H : Hp) (args : Args) (us : List Value) (vs : List V) (Q : VK) (E : XK), Room k A → Env0 P w K mg base A outer s H → BindsTo s fd args (ps.zip us) → Vals vs us → sp vs H Q E →
    codeAny (model P w) A (.call (.ref f) args) (L2.CR CX outer P w H s Q E) s
section
variable {P : Program} {w : World} {K : PySem.W.Frag} {mg : Str → Option Value} {base : Heap} {CX : CXT} {j k : Nat} {f : Addr} {fd : FuncData} {ps : List Str} {sp sp' : Sp}
theorem FnOk.mono (F : FnOk P w K mg base CX j f fd ps sp) (h : j ≤ k) : FnOk P w K mg base CX k f fd ps sp := ⟨F.len, fun A o s H ar us vs Q E hr => F.run A o s H ar us vs Q E (hr.mono h)⟩
theorem FnOk.of (F : L2.FnOk P w K mg base CX k f fd ps sp) : FnOk P w K mg base CX k f fd ps sp := ⟨F.len, fun A o s H ar us vs Q E hr => F.run A o s H ar us vs Q E hr.toRoom⟩
theorem FnOk.imp (F : FnOk P w K mg base CX k f fd ps sp) (h : ∀ vs H Q E, sp' vs H Q E → sp vs H Q E) : FnOk P w K mg base CX k f fd ps sp' :=
  ⟨fun vs H Q E q => F.len vs H Q E (h _ _ _ _ q), fun A o s H ar us vs Q E hr he hb hv hs => F.run A o s H ar us vs Q E hr he hb hv (h _ _ _ _ hs)⟩
end
theorem res_of {CX : CXT} {X : Cx} {E : XK} {pins : List (Addr × Obj)} {σ : St} {H : Hp} {s : Shared} {Q : VK} {A : Around} {c : Code} (I : Inv X pins σ H s) (hx : PassesAt CX X σ E)
    (h : codeAny (model X.prog X.w) A c (L2.CR CX X.stack X.prog X.w H s Q E) s) : codeAny (model X.prog X.w) A c (wants (EP X pins σ Q) X.xe) s :=
  codeAny_mono h fun r s' hq => by
    cases r with
    | error e => exact hx pins H s e s' I hq
    | ok fl =>
      cases fl with
      | ret u => exact I.after hq
      | next => exact False.elim hq
      | brk => exact False.elim hq
      | cont => exact False.elim hq
section
variable {X : Cx} {CX : CXT} {k : Nat} {f : Addr} {fd : FuncData} {ps : List Str} {sp : Sp} {dvs : List V} {ds : List Value} {E : St → XK} {x : Str} {p pos : Pos} {e : Expr} {es : List Expr} {t : TA}
theorem run_fnSD {pins : List (Addr × Obj)} {σ : St} {H : Hp} {s : Shared} {Q : VK} {us : List Value} {vs : List V} (F : FnOk X.prog X.w X.K X.mg X.base CX k f fd ps sp) (hr : Room k X.A) (hb : Binds X.K fd ps ds) (hd : Vals dvs ds) (hx : PassesAt CX X σ (E σ))
    (I : Inv X pins σ H s) (r : Vals vs us) (h : sp (vs ++ dvs) H Q (E σ)) : wpAny (model X.prog X.w) X.A (call (.ref f) us) (EP X pins σ Q) X.xe s := by
  have z : Vals (vs ++ dvs) (us ++ ds) := r.append hd
  exact wpAny_call (res_of I hx (F.run X.A X.stack s H ⟨us, []⟩ _ _ Q (E σ) hr I.env0 (hb s us I.kIn (by rw [← z.length]; exact F.len _ _ _ _ h)) z h))
theorem run_fnS {pins : List (Addr × Obj)} {σ : St} {H : Hp} {s : Shared} {Q : VK} {us : List Value} {vs : List V} (F : FnOk X.prog X.w X.K X.mg X.base CX k f fd ps sp) (hr : Room k X.A) (hb : Binds X.K fd ps []) (hx : PassesAt CX X σ (E σ))
    (I : Inv X pins σ H s) (r : Vals vs us) (h : sp vs H Q (E σ)) : wpAny (model X.prog X.w) X.A (call (.ref f) us) (EP X pins σ Q) X.xe s :=
  run_fnSD (dvs := []) (ds := []) F hr hb .nil hx I r (by rw [List.append_nil]; exact h)
theorem pe_callSD (F : FnOk X.prog X.w X.K X.mg X.base CX k f fd ps sp) (hr : Room k X.A) (hg : Gl X x) (hm : X.mg x = some (.ref f)) (hk : PySem.W.keepIn X.K (.ref f) = true) (hb : Binds X.K fd ps ds) (hd : Vals dvs ds) (hx : ∀ σ, PassesAt CX X σ (E σ))
    (ha : PA X (e :: es) t) (hdb : (x == ("__debug__" : Str)) = false := by decide) (he : starEach (e :: es) X.env = (false, eval e X.env) :: starEach es X.env := by rfl) (hpl : (backTo pos (starEach es X.env)).any (·.1) = false := by rfl) :
    PE X (.Call (.Name x p) (e :: es) [] pos) (tCallSD sp dvs E t) :=
  ⟨fun pins s σ H Q I h => wpAny_Call_Name_kw (ld_glob I hg hm (PySem.W.callWith_K (h₀ := X.base) I.ok.mod.kin hk (thn (ha.run pos pins s σ H _ I h) fun us s1 ⟨vs, H1, I1, r, q⟩ => ⟨I1.kIn, run_fnSD F hr hb hd (hx σ) I1 r q⟩) he hpl) hdb)⟩
end
theorem fun_okc {P : Program} {w : World} {K : PySem.W.Frag} {mg : Str → Option Value} {base : Heap} {x qual : Str} {params : Arguments} {body : List Stmt} {scope : Scope} {dvs : List V} {kws : List (Str × V)} {f : Addr} {fd : FuncData} {CX : CXT} {N ps : List Str} {k : Nat} {sp : Sp}
    (F : FunD K x qual params body scope dvs kws f fd) (S : FnScope N ps scope) (len : ∀ vs H Q E, sp vs H Q E → vs.length = ps.length)
    (hb : ∀ (cdv : Value) (A : Around) (outer : List PySem.Env) (s : Shared) (H : Hp) (vs : List V) (Q : VK) (E : XK), fd.code = cdv → Room k (A.deeper (PyProof.Rows.envOfC qual scope s.heap.objs.size f cdv)) → sp vs H Q E →
      ∃ t, PSs (cxOf CX P w K mg base N qual scope f cdv A outer s H E) body t ∧ t { nx := fun _ H' => Q .non H', rt := Q } (start N vs) H) : FnOk P w K mg base CX (k + 1) f fd ps sp := by
  obtain ⟨oc, od, dV, kV, doc, pm, an, cdv, ct, osl, rfl, lk, hcd, _, _⟩ := F.ex
  exact ⟨len, fun A outer s H args us vs Q E hr e0 hbi r hsp => LamX.run_ofS lk hcd S hr.toRoom e0 hbi r (len _ _ _ _ hsp) fun hr2 => hb cdv A outer s H vs Q E rfl ⟨hr2, hr.gd⟩ hsp⟩
end Ev
namespace Ev
open PySem L2
variable [WW]
def spC (K : PySem.W.Frag) (xr : XR) (C : Calls) (f : Nat) (io : List Nat) (n : Nat) : Sp := fun vs H Q E => vs.length = n ∧ ∃ Rt ws A, Rl K Rt H (vs.map some) (ws.map some) A ∧ (match C f ws with
  | .ok w outs => ∀ v H' A' B, Sx K Rt (io.map fun j => vs[j]?) H A H' outs A' B → Own K H' (Av (A' ++ B) Rt) w v B → Q v H'
  | .exc c t outs => ∀ cls d H' A', Sx K Rt (io.map fun j => vs[j]?) H A H' outs A' [] → xr c t H' (Av (A' ++ []) Rt) cls d → E cls d H'
  | .no => False)
def slots : As → List Nat
  | .nil => []
  | .cons _ as => slots as
  | .io i as => i :: slots as
  | .own _ as => 1000000 :: slots as
  | .iol i as => i :: slots as
def ioPos : Nat → As → List Nat
  | _, .nil => []
  | k, .cons _ as => ioPos (k + 1) as
  | k, .io _ as => k :: ioPos (k + 1) as
  | k, .own _ as => k :: ioPos (k + 1) as
  | k, .iol _ as => k :: ioPos (k + 1) as
def VsAt (σ : St) : As → List V → Prop
  | .nil, vs => vs = []
  | .cons _ as, vs => ∃ v r, vs = v :: r ∧ VsAt σ as r
  | .io i as, vs => ∃ v r, vs = v :: r ∧ σ[i]? = some (some v) ∧ VsAt σ as r
  | .own _ as, vs => ∃ v r, vs = v :: r ∧ σ.length ≤ 1000000 ∧ VsAt σ as r
  | .iol i as, vs => ∃ v r, vs = v :: r ∧ σ[i]? = some (some v) ∧ VsAt σ as r
section
variable (K : PySem.W.Frag) (g : Cfg)
def POA (σ : St) (as : As) : List W × List Nat → List V → Hp → (Addr → Prop) → List Addr → Prop := fun a vs H av B => OwnL K H av a.1 vs B ∧ a.2 = slots as ∧ VsAt σ as vs
def tA (as : As) : TA := fun σ H Q => ∃ Rt env A, Rl K Rt H σ env A ∧ Post K g (POA K σ as) Rt σ H A (evA g.G g.C as env) Q
end
def Same (σ : St) : List Nat → St → Prop
  | [], o => o = []
  | i :: is, o => ∃ x r, o = x :: r ∧ (σ[i]? = some x ∨ σ.length ≤ i) ∧ Same σ is r
theorem same_of {σ : St} {post : List V} : ∀ (as : As) (vs pre : List V), VsAt σ as vs → Same σ (slots as) ((ioPos pre.length as).map fun j => (pre ++ (vs ++ post))[j]?)
  | .nil, vs, pre, h => rfl
  | .cons _ as, vs, pre, h => by
    obtain ⟨v, r, rfl, h⟩ := h
    have := same_of (post := post) as r (pre ++ [v]) h
    rw [List.length_append, List.length_singleton, List.append_assoc] at this
    exact this
  | .io i as, vs, pre, h => by
    obtain ⟨v, r, rfl, hi, h⟩ := h
    have := same_of (post := post) as r (pre ++ [v]) h
    rw [List.length_append, List.length_singleton, List.append_assoc] at this
    refine ⟨some v, _, ?_, .inl hi, this⟩
    show (pre ++ (v :: r ++ post))[pre.length]? :: _ = _
    rw [List.getElem?_append_right (Nat.le_refl _), Nat.sub_self]
    rfl
  | .own _ as, vs, pre, h => by
    obtain ⟨v, r, rfl, hi, h⟩ := h
    have := same_of (post := post) as r (pre ++ [v]) h
    rw [List.length_append, List.length_singleton, List.append_assoc] at this
    refine ⟨some v, _, ?_, .inr hi, this⟩
    show (pre ++ (v :: r ++ post))[pre.length]? :: _ = _
    rw [List.getElem?_append_right (Nat.le_refl _), Nat.sub_self]
    rfl
  | .iol i as, vs, pre, h => by
    obtain ⟨v, r, rfl, hi, h⟩ := h
    have := same_of (post := post) as r (pre ++ [v]) h
    rw [List.length_append, List.length_singleton, List.append_assoc] at this
    refine ⟨some v, _, ?_, .inl hi, this⟩
    show (pre ++ (v :: r ++ post))[pre.length]? :: _ = _
    rw [List.getElem?_append_right (Nat.le_refl _), Nat.sub_self]
    rfl
section
variable {K : PySem.W.Frag} {g : Cfg} {Rt : Addr → Prop} {H H1 H2 : Hp} {σ σo : St} {env env1 env2 outs : Env} {A A1 A2 B B1 B2 : List Addr} {w : W} {ws : List W} {v : V} {vs : List V} {av : Addr → Prop} {i : Nat}
theorem OwnL.re : ∀ (ws : List W) (vs : List V) (B : List Addr), OwnL K H av ws vs B → RE K H av (ws.map some) (vs.map some) B
  | [], vs, B, h => by
    obtain ⟨rfl, rfl⟩ := h
    exact ⟨rfl, rfl⟩
  | w :: ws, vs, B, h => by
    obtain ⟨v, r, B1, B2, rfl, rfl, h1, h2⟩ := h
    exact ⟨v, r.map some, B1, B2, rfl, rfl, h1, OwnL.re ws r B2 h2⟩
theorem OwnL.vals {ts : List T} {us : List V} : ∀ (ws : List W) (vs : List V) (B : List Addr), OwnL K H av ws vs B → FzL K H av ts us → OwnL K H av (ws ++ ts.map W.val) (vs ++ us) B
  | [], vs, B, h, f => by
    obtain ⟨rfl, rfl⟩ := h
    exact FzL.own ts us f
  | w :: ws, vs, B, h, f => by
    obtain ⟨v, r, B1, B2, rfl, rfl, h1, h2⟩ := h
    exact ⟨v, r ++ us, B1, B2, rfl, rfl, h1, OwnL.vals ws r B2 h2 f⟩
theorem RE.nones (k : Nat) : ∀ (env : Env) (σ : St) (A : List Addr), RE K H av env σ A → RE K H av (env ++ List.replicate k none) (σ ++ List.replicate k none) A
  | [], σ, A, h => by
    obtain ⟨rfl, rfl⟩ := h
    induction k with
    | zero => exact ⟨rfl, rfl⟩
    | succ k ih => exact ⟨none, _, rfl, ih⟩
  | none :: env, σ, A, h => by
    obtain ⟨o, r, rfl, h⟩ := h
    exact ⟨o, _, rfl, RE.nones k env r A h⟩
  | some w :: env, σ, A, h => by
    obtain ⟨v, r, B, D, rfl, rfl, h1, h2⟩ := h
    exact ⟨v, _, B, D, rfl, rfl, h1, RE.nones k env r D h2⟩
theorem RE.pick : ∀ (io : List Nat) (env : Env) (A : List Addr), io.Nodup → (∀ j ∈ io, j < env.length) → RE K H av env σ A → ∃ A', (∀ b, A'.count b ≤ A.count b) ∧ RE K H av (outE env io) (io.map fun j => (σ[j]?).getD none) A'
  | [], env, A, _, _, h => ⟨[], fun b => by simp, rfl, rfl⟩
  | j :: io, env, A, nd, hl, h => by
    obtain ⟨nj, nd⟩ := List.nodup_cons.mp nd
    obtain ⟨A1, B, A2, eA, hn, hw, hu⟩ := RE.slot env σ A j h (hl j List.mem_cons_self)
    have jl : j < σ.length := by rw [← RE.len _ _ _ h]; exact hl j List.mem_cons_self
    have es : σ[j]? = some ((σ[j]?).getD none) := by rw [List.getElem?_eq_getElem jl]; rfl
    have h2 := (hu H av (fun _ _ q _ => q) (fun _ _ q => q) fun b z => .inl z).1 ((σ[j]?).getD none)
    rw [set_same es] at h2
    obtain ⟨A', c, re⟩ := RE.pick io (env.set j none) (A1 ++ A2) nd (fun k hk => by rw [List.length_set]; exact hl k (List.mem_cons_of_mem _ hk)) h2
    have eo : outE (env.set j none) io = outE env io := List.map_congr_left fun k hk => by
      rw [List.getElem?_set_ne fun z : j = k => nj (by rw [z]; exact hk)]
    rw [eo] at re
    have jl2 := hl j List.mem_cons_self
    cases e : env[j] with
    | none =>
      have eg : env[j]? = some none := by rw [List.getElem?_eq_getElem jl2, e]
      refine ⟨A', fun b => ?_, ?_⟩
      · have := c b
        rw [eA]
        simp only [List.count_append] at this ⊢
        omega
      · show RE K H av ((env[j]?).getD none :: outE env io) _ A'
        rw [eg]
        exact ⟨_, _, rfl, re⟩
    | some w =>
      have eg : env[j]? = some (some w) := by rw [List.getElem?_eq_getElem jl2, e]
      obtain ⟨v, ev, ow⟩ := hw w eg
      refine ⟨B ++ A', fun b => ?_, ?_⟩
      · have := c b
        rw [eA]
        simp only [List.count_append] at this ⊢
        omega
      · show RE K H av ((env[j]?).getD none :: outE env io) ((σ[j]?).getD none :: _) (B ++ A')
        rw [eg, ev]
        exact ⟨v, _, B, A', rfl, rfl, ow, re⟩
theorem Sx.back (s1 : Sx K Rt σ H A H1 env1 A1 B1) (s2 : Sx K (RtB A1 Rt) σo H1 B1 H2 outs A2 B2) : Sx K Rt σ H A H2 env1 A1 (A2 ++ B2) ∧ RE K H2 (Av (A1 ++ (A2 ++ B2)) Rt) outs σo A2 := by
  have nB : ∀ b, H b ≠ none → b ∉ A → b ∉ B1 := fun b q n z => (s1.go.new b (List.mem_append_right _ z)).elim n q
  have nA1 : ∀ b ∈ A1, b ∉ B1 := fun b hb z => (List.nodup_append.mp s1.nd).2.2 b hb b z rfl
  have old : ∀ b, H1 b = none → b ∈ A ∨ H b = none := fun b z => by
    by_cases ha : b ∈ A
    · exact .inl ha
    · by_cases q : H b = none
      · exact .inr q
      · exact absurd z (s1.go.there b q ha)
  have hav : ∀ b, Av (A1 ++ (A2 ++ B2)) Rt b → Av (A1 ++ B1) Rt b ∨ H1 b = none := fun b z => by
    rcases z with z | z
    · rcases List.mem_append.mp z with z | z
      · exact .inl (.inl (List.mem_append_left _ z))
      · exact (s2.go.new b z).imp (fun z => .inl (List.mem_append_right _ z)) id
    · exact .inl (.inr z)
  refine ⟨⟨⟨fun b o q n => s2.go.keep b o (s1.go.keep b o q n) (nB b q.ne n), fun b xs q => s2.go.tups b xs (s1.go.tups b xs q), fun b hb => ?_, fun b q n => s2.go.there b (s1.go.there b q n) (nB b q n)⟩, ?_, fun b hb z => ?_, fun b z => s2.th b (.inr z), fun b hb => ?_, ?_, s2.tb⟩, ?_⟩
  · rcases List.mem_append.mp hb with hb | hb
    · exact s1.go.new b (List.mem_append_left _ hb)
    · rcases s2.go.new b hb with z | z
      · exact s1.go.new b (List.mem_append_right _ z)
      · exact old b z
  · exact List.nodup_append.mpr ⟨(List.nodup_append.mp s1.nd).1, s2.nd, fun a ha b hb e => by
      subst e
      exact s2.rt a hb (.inl ha)⟩
  · rcases List.mem_append.mp hb with hb | hb
    · exact s1.rt b (List.mem_append_left _ hb) z
    · exact s2.rt b hb (.inr z)
  · rcases List.mem_append.mp hb with hb | hb
    · obtain ⟨o, q, _⟩ := RE.there _ _ _ s2.re b hb
      rw [q]; exact fun z => by cases z
    · exact s2.bth b hb
  · exact RE.mono env1 σ A1 (fun b o q c => s2.go.keep b o q fun z => by
      rcases c with c | c
      · exact nA1 b c z
      · exact c (.inl (List.mem_append_right _ z))) s2.go.tups hav s1.re
  · exact RE.mono outs σo A2 (fun _ _ q _ => q) (fun _ _ q => q) (fun b z => .inl (by
      rcases z with z | z
      · rcases List.mem_append.mp z with z | z
        · exact .inr (.inl z)
        · exact .inl z
      · exact .inr (.inr z))) s2.re
theorem Sx.clear (s : Sx K Rt σ H A H1 env A1 B) (hi : i < env.length) : ∃ A', Sx K Rt σ H A H1 (env.set i none) A' B ∧ ∀ b, Av (A' ++ B) Rt b → Av (A1 ++ B) Rt b := by
  obtain ⟨C1, Bo, C2, eA, hn, hw, hu⟩ := RE.slot env σ A1 i s.re hi
  subst eA
  have il : i < σ.length := by rw [← RE.len _ _ _ s.re]; exact hi
  have es : σ[i]? = some ((σ[i]?).getD none) := by rw [List.getElem?_eq_getElem il]; rfl
  have cnt : ∀ b, ((C1 ++ C2) ++ B).count b ≤ ((C1 ++ (Bo ++ C2)) ++ B).count b := fun b => by
    simp only [List.count_append]
    omega
  have sub : ∀ b ∈ (C1 ++ C2) ++ B, b ∈ (C1 ++ (Bo ++ C2)) ++ B := fun b hb => List.count_pos_iff.mp (Nat.lt_of_lt_of_le (List.count_pos_iff.mpr hb) (cnt b))
  have suba : ∀ b, Av ((C1 ++ C2) ++ B) Rt b → Av ((C1 ++ (Bo ++ C2)) ++ B) Rt b := fun b z => z.imp (sub b) id
  refine ⟨C1 ++ C2, ⟨s.go.sub sub, List.nodup_iff_count.mpr fun b => Nat.le_trans (cnt b) (List.nodup_iff_count.mp s.nd b), fun b hb => s.rt b (sub b hb), s.th, s.bth, ?_, s.tb⟩, suba⟩
  have := (hu H1 (Av ((C1 ++ C2) ++ B) Rt) (fun _ _ q _ => q) (fun _ _ q => q) fun b z => .inl (suba b z)).1 ((σ[i]?).getD none)
  rw [set_same es] at this
  exact this
theorem Sx.backs : ∀ (is : List Nat) (outs : Env) (σo : St) (env : Env) (A1 A2 : List Addr), Same σ is σo → Sx K Rt σ H A H1 env A1 (A2 ++ B) → RE K H1 (Av (A1 ++ (A2 ++ B)) Rt) outs σo A2 →
    ∃ A', Sx K Rt σ H A H1 (backO is outs env) A' B ∧ ∀ b, Av (A' ++ B) Rt b → Av (A1 ++ (A2 ++ B)) Rt b
  | [], outs, σo, env, A1, A2, sm, s, re => by
    cases (show σo = [] from sm)
    cases outs with
    | nil =>
      obtain ⟨_, rfl⟩ := re
      exact ⟨A1, s, fun b z => z⟩
    | cons o outs => exact absurd (RE.len _ _ _ re) (by simp)
  | i :: is, outs, σo, env, A1, A2, sm, s, re => by
    obtain ⟨x, r, rfl, hx, sm⟩ := sm
    rcases hx with hx | hx
    case inr =>
      have hs : ∀ o', env.set i o' = env := fun o' => List.set_eq_of_length_le (by rw [RE.len _ _ _ s.re]; exact hx)
      cases outs with
      | nil => exact absurd (RE.len _ _ _ re) (by simp)
      | cons o outs =>
        cases o with
        | none =>
          obtain ⟨y, r', e, re⟩ := re
          cases e
          obtain ⟨A'', s'', sub'⟩ := Sx.backs is outs r env A1 A2 sm s re
          exact ⟨A'', by show Sx K Rt σ H A H1 (backO is outs (env.set i none)) A'' B; rw [hs]; exact s'', sub'⟩
        | some w =>
          obtain ⟨v, r', D1, D2, e, rfl, ow, re⟩ := re
          cases e
          have nd := (List.nodup_append.mp s.nd).2.1
          have s' := s.drop (B' := D2 ++ B) ((List.sublist_append_right D1 D2).append (List.Sublist.refl B) |>.nodup nd) fun b hb => by
            rw [List.append_assoc]; exact List.mem_append_right _ hb
          have suba : ∀ b, Av (A1 ++ (D2 ++ B)) Rt b → Av (A1 ++ ((D1 ++ D2) ++ B)) Rt b := fun b z => z.imp (fun z => by
            rcases List.mem_append.mp z with z | z
            · exact List.mem_append_left _ z
            · refine List.mem_append_right _ ?_
              rw [List.append_assoc]; exact List.mem_append_right _ z) id
          obtain ⟨A'', s'', sub'⟩ := Sx.backs is outs r env A1 D2 sm s' (RE.mono _ _ _ (fun _ _ q _ => q) (fun _ _ q => q) (fun b z => .inl (suba b z)) re)
          exact ⟨A'', by show Sx K Rt σ H A H1 (backO is outs (env.set i (some w))) A'' B; rw [hs]; exact s'', fun b z => suba b (sub' b z)⟩
    have hi : i < env.length := by rw [RE.len _ _ _ s.re]; exact (List.getElem?_eq_some_iff.mp hx).1
    cases outs with
    | nil => exact absurd (RE.len _ _ _ re) (by simp)
    | cons o outs =>
      cases o with
      | none =>
        obtain ⟨y, r', e, re⟩ := re
        cases e
        obtain ⟨A', s', sub⟩ := s.clear hi
        obtain ⟨A'', s'', sub'⟩ := Sx.backs is outs r (env.set i none) A' A2 sm s' (RE.mono _ _ _ (fun _ _ q _ => q) (fun _ _ q => q) (fun b z => .inl (sub b z)) re)
        exact ⟨A'', s'', fun b z => sub b (sub' b z)⟩
      | some w =>
        obtain ⟨v, r', D1, D2, e, rfl, ow, re⟩ := re
        cases e
        rw [List.append_assoc] at s ow re
        obtain ⟨A', s', sub⟩ := s.put ow hi
        rw [set_same hx] at s'
        obtain ⟨A'', s'', sub'⟩ := Sx.backs is outs r (env.set i (some w)) A' D2 sm s' (RE.mono _ _ _ (fun _ _ q _ => q) (fun _ _ q => q) (fun b z => .inl (sub b z)) re)
        exact ⟨A'', s'', fun b z => by rw [List.append_assoc]; exact sub b (sub' b z)⟩
end
section
variable {X : Cx} {g : Cfg} {pos : Pos} {a b c : Expr} {es : List Expr} {ia ib ic : E} {as : As} {i : Nat} {x : Str}
theorem sna_nil : PA X [] (tA X.K g .nil) := PA.imp pa_nil fun σ H Q ⟨Rt, env, A, rl, p⟩ => p [] H A [] rl.sx ⟨⟨rfl, rfl⟩, rfl, rfl⟩
theorem sna_cons (he : PE X a (tE X.K g ia)) (hs : PA X es (tA X.K g as)) (hst : starEach (a :: es) X.env = (false, eval a X.env) :: starEach es X.env) : PA X (a :: es) (tA X.K g (.cons ia as)) :=
  PA.imp (pa_cons he hs hst) fun σ H Q ⟨Rt, env, A, rl, p⟩ => by
    refine ⟨Rt, env, A, rl, Post.seq p fun w e1 v1 H1 A1 B1 s1 o1 p1 => ?_⟩
    have fz := s1.fz0 o1
    have s0 := s1.drop0
    refine ⟨RtB [] Rt, e1, A1, s0.rl, Post.seq2 s0 p1 fun r e2 vs H2 A2 B2 s2 o2 p2 => ?_⟩
    obtain ⟨o2, e2', va⟩ := o2
    refine p2 (v1 :: vs) H2 A2 B2 (s0.next s2) ⟨⟨v1, vs, [], B2, rfl, rfl, s0.own s2 (w := .val w.fz) ⟨rfl, fz⟩, Sx.ownL2 (B1 := []) o2⟩, e2', v1, vs, rfl, va⟩
theorem sna_io (hN : X.N[i]? = some x) (hv : Vis X.env.scope x) (hd : (x == ("__debug__" : Str)) = false) (hcd : (x == ("__classdict__" : Str)) = false) (hs : PA X es (tA X.K g as))
    (hst : starEach (.Name x pos :: es) X.env = (false, eval (.Name x pos) X.env) :: starEach es X.env) : PA X (.Name x pos :: es) (tA X.K g (.io i as)) :=
  PA.imp (pa_cons (pe_var hN hv hd hcd) hs hst) fun σ H Q ⟨Rt, env, A, rl, p⟩ => by
    have p' : Post X.K g (POA X.K σ (.io i as)) Rt σ H A (match env[i]? with
      | some (some w) => (evA g.G g.C as (env.set i none)).bind fun r env2 => .ok (w :: r.1, i :: r.2) env2
      | _ => .no) Q := p
    cases e : env[i]? with
    | none => rw [e] at p'; exact p'.elim
    | some o =>
    cases o with
    | none => rw [e] at p'; exact p'.elim
    | some w =>
      rw [e] at p'
      have hi : i < env.length := (List.getElem?_eq_some_iff.mp e).1
      obtain ⟨A1, B, A2, eA, _, hw, hu⟩ := RE.slot env σ A i rl.re hi
      obtain ⟨v, ev, ow⟩ := hw w e
      subst eA
      have eqm : ∀ b, b ∈ (A1 ++ A2) ++ B ↔ b ∈ A1 ++ (B ++ A2) := fun b => by
        simp only [List.mem_append]
        constructor
        · rintro ((z | z) | z)
          · exact .inl z
          · exact .inr (.inr z)
          · exact .inr (.inl z)
        · rintro (z | z | z)
          · exact .inl (.inl z)
          · exact .inr z
          · exact .inl (.inr z)
      have suba : ∀ b, Av ((A1 ++ A2) ++ B) Rt b → Av (A1 ++ (B ++ A2)) Rt b := fun b z => z.imp (eqm b).mp id
      have re := (hu H (Av ((A1 ++ A2) ++ B) Rt) (fun _ _ q _ => q) (fun _ _ q => q) (fun b z => .inl (suba b z))).1 (some v)
      rw [set_same ev] at re
      have nd : ((A1 ++ A2) ++ B).Nodup := perm_nodup (by
        rw [List.perm_iff_count]
        intro a
        simp only [List.count_append]
        omega) rl.nd
      have s1 : Sx X.K Rt σ H (A1 ++ (B ++ A2)) H (env.set i none) (A1 ++ A2) B := ⟨Go.refl.sub fun b hb => (eqm b).mp hb, nd, fun b hb => rl.rt b ((eqm b).mp hb), rl.th, (fun b hb => by
        obtain ⟨o, q, _⟩ := Own.there w v B ow b hb
        rw [q]; exact (fun z => by cases z)), re, rl.tb⟩
      have o1 : Own X.K H (Av ((A1 ++ A2) ++ B) Rt) w v B := Own.mono w v B (fun _ _ q _ => q) (fun _ _ q => q) (fun b z => .inl (suba b z)) ow
      refine ⟨v, ev, RtB B Rt, env.set i none, A1 ++ A2, s1.rl, Post.seq2 s1 p' fun r e2 vs H2 A3 B2 s2 o2 p2 => ?_⟩
      obtain ⟨o2, e2', va⟩ := o2
      exact p2 (v :: vs) H2 A3 (B ++ B2) (s1.next s2) ⟨⟨v, vs, B, B2, rfl, rfl, s1.own s2 o1, Sx.ownL2 o2⟩, congrArg (i :: ·) e2', v, vs, rfl, ev, va⟩
theorem call_ev {K : PySem.W.Frag} {f n : Nat} {io : List Nat} {ds : List T} {dvs : List V} {Rt : Addr → Prop} {σ : St} {H H1 : Hp} {A A1 B1 : List Addr} {e1 : Env} {ws : List W × List Nat} {vs : List V} {Q : VK} (hio : ioPos 0 as = io) (hdv : ∀ H av, FzL K H av ds dvs)
    (hn : (vs ++ dvs).length = n) (s1 : Sx K Rt σ H A H1 e1 A1 B1) (o1 : POA K σ as ws vs H1 (Av (A1 ++ B1) Rt) B1)
    (p : Post K g (PO1 K) Rt σ H A (match g.C f (ws.1 ++ ds.map .val) with
      | .ok w outs => .ok w (backO ws.2 outs e1)
      | .exc c t outs => .exc c t (backO ws.2 outs e1)
      | .no => .no) Q) : spC K g.xr g.C f io n (vs ++ dvs) H1 Q (WE g.W σ) := by
  obtain ⟨o1, e2, va⟩ := o1
  have sm : Same σ ws.2 (io.map fun j => (vs ++ dvs)[j]?) := by
    rw [e2, ← hio]
    exact same_of as vs [] va
  have avq : ∀ b, Av B1 (RtB A1 Rt) b → Av (A1 ++ B1) Rt b := fun b z => by
    rcases z with z | z | z
    · exact .inl (List.mem_append_right _ z)
    · exact .inl (List.mem_append_left _ z)
    · exact .inr z
  have ow : OwnL K H1 (Av B1 (RtB A1 Rt)) (ws.1 ++ ds.map .val) (vs ++ dvs) B1 := OwnL.vals ws.1 vs B1 (OwnL.mono _ _ _ (fun _ _ q _ => q) (fun _ _ q => q) (fun b z => .inl (avq b z)) o1) (hdv _ _)
  refine ⟨hn, RtB A1 Rt, ws.1 ++ ds.map .val, B1, ⟨(List.nodup_append.mp s1.nd).2.1, fun b hb z => ?_, fun b z => ?_, OwnL.re _ _ _ ow, s1.tb⟩, ?_⟩
  · rcases z with z | z
    · exact (List.nodup_append.mp s1.nd).2.2 b z b hb rfl
    · exact s1.rt b (List.mem_append_right _ hb) z
  · rcases z with z | z
    · obtain ⟨o, q, _⟩ := RE.there _ _ _ s1.re b z
      rw [q]; exact fun z => by cases z
    · exact s1.th b z
  · cases e : g.C f (ws.1 ++ ds.map .val) with
    | no => rw [e] at p; exact p.elim
    | ok w outs =>
      rw [e] at p
      intro v H2 A2 B2 s2 o2
      obtain ⟨s3, re3⟩ := s1.back s2
      obtain ⟨A3, s4, sub⟩ := Sx.backs ws.2 outs _ e1 A1 A2 sm s3 re3
      refine p v H2 A3 B2 s4 (Own.mono w v B2 (fun _ _ q _ => q) (fun _ _ q => q) (fun b z => .inl ?_) o2)
      rcases sub b z with z | z
      · rcases List.mem_append.mp z with z | z
        · exact .inr (.inl z)
        · exact .inl z
      · exact .inr (.inr z)
    | exc c t outs =>
      rw [e] at p
      intro cls d H2 A2 s2 px
      obtain ⟨s3, re3⟩ := s1.back s2
      obtain ⟨A3, s4, sub⟩ := Sx.backs ws.2 outs _ e1 A1 A2 sm s3 re3
      refine p cls d H2 A3 s4 (g.xm c t H2 _ _ cls d (fun b z => ?_) px)
      rcases sub b z with z | z
      · rcases List.mem_append.mp z with z | z
        · exact .inr (.inl z)
        · exact .inl z
      · exact .inr (.inr z)
structure FnC (P : Program) (w : World) (K : PySem.W.Frag) (mg : Str → Option Value) (base : Heap) (xr : XR) (C : Calls) (d : Nat) (f : Nat) (x : Str) (io : List Nat) (n : Nat) (dvs : List V) : Prop where
  ex : ∃ fa fd ps ds, FnOk P w K mg base (L2.CX P w) d fa fd ps (spC K xr C f io n) ∧ mg x = some (.ref fa) ∧ PySem.W.keepIn K (.ref fa) = true ∧ Binds K fd ps ds ∧ Vals dvs ds
theorem snd_call {f n k : Nat} {io : List Nat} {ds : List T} {dvs : List V} {p0 : Pos} (F : FnC X.prog X.w X.K X.mg X.base g.xr g.C k f x io n dvs) (hr : Room k X.A) (tk : Takes X g.W) (hg : Gl X x) (hio : ioPos 0 as = io) (hdv : ∀ H av, FzL X.K H av ds dvs) (hn : es.length + 1 + dvs.length = n)
    (ha : PA X (a :: es) (tA X.K g as)) (hvl : ∀ vs σ, VsAt σ as vs → vs.length = es.length + 1) (hdb : (x == ("__debug__" : Str)) = false) (he : starEach (a :: es) X.env = (false, eval a X.env) :: starEach es X.env) (hpl : (backTo pos (starEach es X.env)).any (·.1) = false) :
    PE X (.Call (.Name x p0) (a :: es) [] pos) (tE X.K g (.call f as ds)) := by
  obtain ⟨fa, fd, ps, dd, F, hm, hk, hb, hd⟩ := F.ex
  refine PE.imp (pe_callSD F hr hg hm hk hb hd (fun σ => passAt tk σ) ha hdb he hpl) fun σ H Q ⟨Rt, env, A, rl, p⟩ => ?_
  exact ⟨Rt, env, A, rl, Post.seq p fun ws e1 vs H1 A1 B1 s1 o1 p1 => call_ev hio hdv (by rw [List.length_append, hvl vs σ o1.2.2]; exact hn) s1 o1 p1⟩
end
section
variable {P : Program} {w : World} {K : PySem.W.Frag} {mg : Str → Option Value} {base : Heap} {x qual : Str} {params : Arguments} {body : List Stmt} {scope : Scope} {dvs : List V} {kws : List (Str × V)} {f : Addr} {fd : FuncData}
def gOf (G : Nat → Option T) (C : Calls) (xr : XR) (xm : ∀ c t H (av av' : Addr → Prop) cls d, (∀ b, av' b → av b) → xr c t H av cls d → xr c t H av' cls d) (E : XK) : Cfg := ⟨G, C, xr, fun cls d _ H => E cls d H, xm⟩
theorem sp_body {G : Nat → Option T} {tab : Nat → Option FD} {xr : XR} {xm : ∀ c t H (av av' : Addr → Prop) cls d, (∀ b, av' b → av b) → xr c t H av cls d → xr c t H av' cls d} {N : List Str} {d i n : Nat} {fd0 : FD} {vs : List V} {H : Hp} {Q : VK} {E : XK}
    (ht : tab i = some fd0) (hnp : fd0.np = n) (hns : fd0.ns = N.length) (hnd : fd0.io.Nodup) (hio : ∀ j ∈ fd0.io, j < fd0.np) (h : spC K xr (callN G tab (d + 1)) i fd0.io n vs H Q E) :
    tSs K (gOf G (callN G tab d) xr xm E) fd0.io fd0.body { nx := fun _ H' => Q .non H', rt := Q } (L2.start N vs) H := by
  obtain ⟨hl, Rt, ws, A0, rl, h⟩ := h
  have h' : (match (if ws.length = fd0.np then (match evSs G (callN G tab d) fd0.body (ws.map some ++ List.replicate (fd0.ns - fd0.np) none) with
      | .ok .nx env => CR.ok (.val .non) (outE env fd0.io)
      | .ok (.rt w) env => .ok w (outE env fd0.io)
      | .ok _ _ => .no
      | .exc c t env => .exc c t (outE env fd0.io)
      | .no => .no) else .no) with
    | .ok w outs => ∀ v H' A' B, Sx K Rt (fd0.io.map fun j => vs[j]?) H A0 H' outs A' B → Own K H' (Av (A' ++ B) Rt) w v B → Q v H'
    | .exc c t outs => ∀ cls d H' A', Sx K Rt (fd0.io.map fun j => vs[j]?) H A0 H' outs A' [] → xr c t H' (Av (A' ++ []) Rt) cls d → E cls d H'
    | .no => False) := by
    have e : callN G tab (d + 1) i ws = (if ws.length = fd0.np then (match evSs G (callN G tab d) fd0.body (ws.map some ++ List.replicate (fd0.ns - fd0.np) none) with
      | .ok .nx env => CR.ok (.val .non) (outE env fd0.io)
      | .ok (.rt w) env => .ok w (outE env fd0.io)
      | .ok _ _ => .no
      | .exc c t env => .exc c t (outE env fd0.io)
      | .no => .no) else .no) := by
      show (match tab i with | none => CR.no | some fd => _) = _
      rw [ht] <;> rfl
    rw [e] at h
    exact h
  have wl : ws.length = fd0.np := by
    by_cases c : ws.length = fd0.np
    · exact c
    · rw [if_neg c] at h'; exact h'.elim
  rw [if_pos wl] at h'
  have vl : vs.length = fd0.np := hl.trans hnp.symm
  have st : L2.start N vs = vs.map some ++ List.replicate (fd0.ns - fd0.np) none := by
    unfold L2.start
    rw [vl, hns]
  have rl2 : Rl K Rt H (L2.start N vs) (ws.map some ++ List.replicate (fd0.ns - fd0.np) none) A0 := ⟨rl.nd, rl.rt, rl.th, by rw [st]; exact RE.nones _ _ _ _ rl.re, rl.tb⟩
  have pick : ∀ {σ' : St} {H' : Hp} {env : Env} {A' B : List Addr}, Kp fd0.io (L2.start N vs) σ' → Sx K Rt σ' H A0 H' env A' B → ∃ A2, Sx K Rt (fd0.io.map fun j => vs[j]?) H A0 H' (outE env fd0.io) A2 B ∧ ∀ b, Av (A2 ++ B) Rt b → Av (A' ++ B) Rt b := fun {σ' H' env A' B} kp sx => by
    have il : ∀ j ∈ fd0.io, j < env.length := fun j hj => by
      rw [RE.len _ _ _ sx.re, kp.1, st, List.length_append, List.length_map, vl]
      have := hio j hj
      omega
    obtain ⟨A2, c, re⟩ := RE.pick fd0.io env A' hnd il sx.re
    have cnt : ∀ b, (A2 ++ B).count b ≤ (A' ++ B).count b := fun b => by
      have := c b
      simp only [List.count_append]
      omega
    have sub : ∀ b ∈ A2 ++ B, b ∈ A' ++ B := fun b hb => List.count_pos_iff.mp (Nat.lt_of_lt_of_le (List.count_pos_iff.mpr hb) (cnt b))
    have suba : ∀ b, Av (A2 ++ B) Rt b → Av (A' ++ B) Rt b := fun b z => z.imp (sub b) id
    have es : (fd0.io.map fun j => (σ'[j]?).getD none) = fd0.io.map fun j => vs[j]? := List.map_congr_left fun j hj => by
      have jl : j < vs.length := by rw [vl]; exact hio j hj
      rw [kp.2 j hj, st, List.getElem?_append_left (by rw [List.length_map]; exact jl), List.getElem?_map, List.getElem?_eq_getElem jl]
      rfl
    rw [es] at re
    exact ⟨A2, ⟨sx.go.sub sub, List.nodup_iff_count.mpr fun b => Nat.le_trans (cnt b) (List.nodup_iff_count.mp sx.nd b), fun b hb => sx.rt b (sub b hb), sx.th, sx.bth, RE.mono _ _ _ (fun _ _ q _ => q) (fun _ _ q => q) (fun b z => .inl (suba b z)) re, sx.tb⟩, suba⟩
  refine ⟨Rt, _, A0, rl2, ?_⟩
  show PostS K _ fd0.io Rt (L2.start N vs) H A0 (evSs G (callN G tab d) fd0.body _) _
  cases e : evSs G (callN G tab d) fd0.body (ws.map some ++ List.replicate (fd0.ns - fd0.np) none) with
  | no => rw [e] at h'; exact h'.elim
  | exc c t env =>
    rw [e] at h'
    intro cls dd σ' H' A' kp sx px
    obtain ⟨A2, s2, sub⟩ := pick kp sx
    exact h' cls dd H' A2 s2 (xm c t H' _ _ cls dd sub px)
  | ok r env =>
    rw [e] at h'
    cases r with
    | nx =>
      intro σ' H' A' kp sx
      obtain ⟨A2, s2, sub⟩ := pick kp sx
      exact h' .non H' A2 [] s2 ⟨rfl, rfl⟩
    | rt w =>
      intro v σ' H' A' B kp sx ow
      obtain ⟨A2, s2, sub⟩ := pick kp sx
      exact h' v H' A2 B s2 (Own.mono w v B (fun _ _ q _ => q) (fun _ _ q => q) (fun b z => .inl (sub b z)) ow)
    | bk => exact h'.elim
    | ct => exact h'.elim
theorem fn_succC {G : Nat → Option T} {tab : Nat → Option FD} {xr : XR} {xm : ∀ c t H (av av' : Addr → Prop) cls d, (∀ b, av' b → av b) → xr c t H av cls d → xr c t H av' cls d} {N ps : List Str} {d i k : Nat} {fd0 : FD} (F : FunD K x qual params body scope dvs kws f fd) (S : FnScope N ps scope)
    (ht : tab i = some fd0) (hnp : fd0.np = ps.length) (hns : fd0.ns = N.length) (hnd : fd0.io.Nodup) (hio : ∀ j ∈ fd0.io, j < fd0.np)
    (hb : ∀ (cdv : Value) (A : Around) (outer : List PySem.Env) (s : Shared) (H : Hp) (E : XK), fd.code = cdv → Room k (A.deeper (PyProof.Rows.envOfC qual scope s.heap.objs.size f cdv)) →
      PSs (cxOf (L2.CX P w) P w K mg base N qual scope f cdv A outer s H E) body (tSs K (gOf G (callN G tab d) xr xm E) fd0.io fd0.body)) :
    FnOk P w K mg base (L2.CX P w) (k + 1) f fd ps (spC K xr (callN G tab (d + 1)) i fd0.io ps.length) := by
  refine fun_okc F S (fun vs H Q E h => h.1) fun cdv A outer s H vs Q E hc hr h => ⟨_, hb cdv A outer s H E hc hr, ?_⟩
  exact sp_body ht hnp hns hnd hio h
theorem fn_succ {G : Nat → Option T} {tab : Nat → Option FD} {xr : XR} {xm : ∀ c t H (av av' : Addr → Prop) cls d, (∀ b, av' b → av b) → xr c t H av cls d → xr c t H av' cls d} {N ps : List Str} {d i k : Nat} {fd0 : FD} (F : FunD K x qual params body scope dvs kws f fd) (S : FnScope N ps scope)
    (ht : tab i = some fd0) (hnp : fd0.np = ps.length) (hns : fd0.ns = N.length) (hnd : fd0.io.Nodup) (hio : ∀ j ∈ fd0.io, j < fd0.np)
    (hb : ∀ (cdv : Value) (A : Around) (outer : List PySem.Env) (s : Shared) (H : Hp) (E : XK), Room k (A.deeper (PyProof.Rows.envOfC qual scope s.heap.objs.size f cdv)) →
      PSs (cxOf (L2.CX P w) P w K mg base N qual scope f cdv A outer s H E) body (tSs K (gOf G (callN G tab d) xr xm E) fd0.io fd0.body)) :
    FnOk P w K mg base (L2.CX P w) (k + 1) f fd ps (spC K xr (callN G tab (d + 1)) i fd0.io ps.length) :=
  fn_succC F S ht hnp hns hnd hio fun cdv A outer s H E _ hr => hb cdv A outer s H E hr
theorem fn_zero {G : Nat → Option T} {tab : Nat → Option FD} {xr : XR} {CX : CXT} {io : List Nat} {n i k : Nat} {ps : List Str} (hn : n = ps.length) : FnOk P w K mg base CX k f fd ps (spC K xr (callN G tab 0) i io n) :=
  ⟨fun vs H Q E h => h.1.trans hn, fun A outer s H args us vs Q E hr he hb hv hs => by
    obtain ⟨_, _, _, _, _, h⟩ := hs
    exact h.elim⟩
end
end Ev
namespace Ev
open PySem L2
variable [WW]
abbrev setNil (w : World) : Obj := { cls := .type "set", dict := none, data := .set #[] 0 (.fresh 0 0 (!w.params.followText "set-order")) }
section
variable {X : Cx}
def tSg (O0 : Addr → HO) (rA : V → List V → Hp → VK → Prop) (wi : TI) (g : TG) (tt : TT) (te : TE) (vs : List Nat) : TE := fun σ H Q => wi σ H fun J H1 => ∀ D, H1 D = none → ∃ W : Nat → Nat → Hp → Prop, (∃ m, W 0 m (upd H1 D (O0 D))) ∧ ∀ i m H, W i m H →
  (J.stop i H ∧ Q (.ref D) H) ∨ (J.go i H ∧ ∃ Nx : Hp → Prop, (∀ H', Nx H' → ∃ m', m' < m ∧ W (i + 1) m' H') ∧ ∀ x H', J.yld i H x H' → g x (L2.wipe σ vs) H' fun σ2 H2 => L2.wipe σ2 vs = L2.wipe σ vs ∧ tt σ2 H2 fun b H3 =>
    if b = true then te σ2 H3 fun y H4 => rA (.ref D) [y] H4 (fun _ H5 => Nx H5) else Nx H3)
theorem pe_sg {O0 : Addr → HO} {rA : V → List V → Hp → VK → Prop} {elt tg iter : Expr} {ifs : List Expr} {scope : Scope} {own : List (Str × Nat)} {pos : Pos} {wi : TI} {g : TG} {tt : TT} {te : TE}
    (hO : ∀ (H : Hp) (h : Heap), ObjOk X.prog X.w H (h.push (setNil X.w)) h.objs.size (O0 h.objs.size)) (hA : ∀ Y : Cx, Y.prog = X.prog → Y.w = X.w → MtR Y "set.add" rA)
    (hc : X.calm = true) (hN : X.N.Nodup) (hi : PI X tg iter wi) (ok : BlkOk X.N X.env.scope scope own)
    (hg : ∀ (s : Shared) (H : Hp) (C : Addr) (cl : List (Str × Addr)) (fp : List Addr), PG (X.blk s H scope (compEnvC scope cl C X.env) fp) tg g)
    (ht : ∀ (s : Shared) (H : Hp) (C : Addr) (cl : List (Str × Addr)) (fp : List Addr), PTs (X.blk s H scope (compEnvC scope cl C X.env) fp) ifs tt)
    (he : ∀ (s : Shared) (H : Hp) (C : Addr) (cl : List (Str × Addr)) (fp : List Addr), PE (X.blk s H scope (compEnvC scope cl C X.env) fp) elt te) (hs : ∀ x, foldedSetIterable iter X.env x = pure x) :
    PE X (.SetComp elt [⟨tg, iter, ifs, 0⟩] scope pos) (tSg O0 rA wi g tt te (own.map (·.2))) := by
  refine ⟨fun pins s σ H Q I hq => ?_⟩
  rw [PpSet.eval_SetComp]
  have clo : ∀ y ∈ scope.names, y.2 = .free → ∃ c, X.env.cells.lookup y.1 = some c := fun y hy e => (ok.free y hy e).elim (fun k => I.ok.has _ (.inl k)) fun k => I.ok.has _ (.inr k)
  refine wpAny_comprehension_free (use := none) rfl hs (closure_ok clo) ok.kind (fun y hy e => by rw [ok.uniq y hy, e]) (thn (hi.run pins s σ H _ I hq) fun _ _ hx => thn hx fun _ sa ha => ?_)
  obtain ⟨it, fp, tn, J, Ha, e, Ia, T, sta, fa, q⟩ := ha
  subst e
  refine PpSet.newSet_ok (newEnv_comp ?_)
  generalize hD : sa.heap.objs.size = D
  have freeD : Ha D = none := Ia.hok.fresh (Nat.le_of_eq hD)
  obtain ⟨W, ⟨m0, w0⟩, turn⟩ := q D freeD
  generalize esb : ({ sa with heap := sa.heap.push (setNil X.w) } : Shared) = sb
  have Ib : Inv X pins σ (upd Ha D (O0 D)) sb := by
    rw [← esb]
    refine Ia.laid (t' := sa.toks) (fun b o e => Heap.get?_push_of_some _ e) (Nat.le_of_eq hD) ?_
    rw [← hD]
    exact hO _ _
  have hb : sb.heap = sa.heap.push (setNil X.w) := by rw [← esb]
  have below : ∀ b ∈ fp, b < sa.heap.objs.size := fun b hb => (T.obj _ _ sta b hb).elim fun _ e => Heap.lt_size e.1
  have fb : ∀ b ∈ fp, FpOk X pins (upd Ha D (O0 D)) b ∧ b < sb.heap.objs.size := fun b hbf => by
    have lt := below b hbf
    refine ⟨⟨(upd_ne (by rw [← hD]; exact Nat.ne_of_lt lt)).trans (fa b hbf).1, (fa b hbf).2⟩, ?_⟩
    rw [hb, Heap.size_push]
    exact Nat.lt_succ_of_lt lt
  have stb : tn 0 sb.heap := T.keep _ _ _ sta fun b _ o e => by
    rw [hb]
    exact Heap.get?_push_of_some _ e
  have Ic := block_start Ib ok hN fb
  have pg := hg sb (upd Ha D (O0 D)) sb.heap.objs.size (cellsFrom (sb.heap.objs.size + 1) scope.names (cloFrom X.env.cells scope.names [])) fp
  have pt := ht sb (upd Ha D (O0 D)) sb.heap.objs.size (cellsFrom (sb.heap.objs.size + 1) scope.names (cloFrom X.env.cells scope.names [])) fp
  have pe := he sb (upd Ha D (O0 D)) sb.heap.objs.size (cellsFrom (sb.heap.objs.size + 1) scope.names (cloFrom X.env.cells scope.names [])) fp
  show codeAny _ _ (.compStart (.SetComp elt [⟨tg, iter, ifs, 0⟩] scope pos) 0 (.ref it) (.ref D) (compEnvC scope (cellsFrom (sb.heap.objs.size + 1) scope.names (cloFrom X.env.cells scope.names [])) sb.heap.objs.size X.env))
    (compPost (model X.prog X.w) X.A X.xe none (EP X pins σ Q) (.ref D) sb.heap.objs.size) { sb with heap := pushCells (sb.heap.push { cls := .type "dict", data := .dict #[] }) scope.names }
  have nfp : ∀ b ∈ fp, (upd Ha D (O0 D)) b = none := fun b h => (fb b h).1.1
  generalize hce : compEnvC scope (cellsFrom (sb.heap.objs.size + 1) scope.names (cloFrom X.env.cells scope.names [])) sb.heap.objs.size X.env = ce at Ic pg pt pe ⊢
  have cL : ce.locals = sb.heap.objs.size := by
    subst hce
    rfl
  generalize hHb : upd Ha D (O0 D) = Hb at Ib Ic pg pt pe w0 nfp fb
  generalize hsc : ({ sb with heap := pushCells (sb.heap.push { cls := .type "dict", data := .dict #[] }) scope.names } : Shared) = sc at Ic ⊢
  have stc : tn 0 sc.heap := T.keep _ _ _ stb fun b _ o e => by
    rw [← hsc]
    exact pushCells_keeps _ _ _ _ (Heap.get?_push_of_some _ e)
  have stat : ∀ {σ' : L2.St} {H' : Hp} {s' : Shared}, Inv (X.blk sb Hb scope ce fp) [] σ' H' s' → (∀ b ∈ fp, H' b = none) → ∀ b ∈ fp, FpOk (X.blk sb Hb scope ce fp) [] H' b := fun {σ' H' s'} J' hn b hb' =>
    ⟨hn b hb', (J'.ok.exf b hb').1, J'.ok.exfs b hb', .inl hb', fun x c e => (J'.ok.exf b hb').2 x c e, fun p hp => absurd (show p ∈ ([] : List (Addr × Obj)) ++ [] from hp) (by simp)⟩
  have loop : codeAny (model X.prog X.w) X.A (.compLoop (.SetComp elt [⟨tg, iter, ifs, 0⟩] scope pos) 0 (.ref it) (.ref D) ce) (compPost (model X.prog X.w) X.A X.xe none (EP X pins σ Q) (.ref D) sb.heap.objs.size) sc := by
    refine PpSet.compLoopS_any (fun n s' => ∃ i H', Inv (X.blk sb Hb scope ce fp) [] (L2.wipe σ (own.map (·.2))) H' s' ∧ tn i s'.heap ∧ (∀ b ∈ fp, H' b = none) ∧ W i n H') ?_ m0 ⟨0, Hb, Ic, stc, nfp, w0⟩
    rintro n sd ⟨i, Hd, Id, std, nd, wd⟩
    rcases turn i n Hd wd with ⟨stop, qq⟩ | ⟨go, Nx, hNx, step⟩
    · refine thnF (T.done (X.blk sb Hb scope ce fp) rfl rfl rfl hc i [] sd _ Hd (fun _ _ => False) Id (stat Id nd) std stop) fun r se ⟨hr, Ie⟩ => ?_
      subst hr
      have If : Inv X pins σ Hd se := Ib.call' (ch := fp) Ie.os Ie.base Ie.hok Ie.bare fun b h => ⟨(fb b h).1.2.2.2.1, (fb b h).1.2.1, (fb b h).1.2.2.2.2.1, (fb b h).1.2.2.2.2.2⟩
      have nC : Hd sb.heap.objs.size = none := cL ▸ (show Hd ce.locals = none from Ie.free)
      obtain ⟨m, hn, _⟩ := Ie.loc
      have hn' : se.heap.Ns sb.heap.objs.size m := cL ▸ (show se.heap.Ns ce.locals m from hn)
      obtain ⟨f0, f1, f2, f3, f4, f5⟩ := Ib.fpOk (Nat.le_refl _) nC
      exact ⟨m, hn', fun h'' sbt => ⟨.ref D, Hd, If.turned (t' := se.toks) (fun b o hb e => (sbt.2 b hb).trans e) f0 f1 f3 f4 f5, rfl, qq⟩⟩
    · refine thnF (T.item (X.blk sb Hb scope ce fp) rfl rfl rfl hc i [] sd _ Hd (fun _ _ => False) Id (stat Id nd) std go) fun r se ⟨u, hr, he'⟩ => ?_
      subst hr
      refine thnF he' fun _ sf ⟨x, Hf, If, rf, yf, stf, nf⟩ => ?_
      refine thnF (pg.run _ sf _ Hf x u _ (If.pinned (stat If nf) (T.obj _ _ stf)) rf (step x Hf yf)) fun _ sg ⟨σg, Hg, Ig, hwg, qg⟩ => ?_
      refine thnF (pt.run _ sg σg Hg _ Ig qg) fun b sh ⟨Hh, Ih, qh⟩ => ?_
      have fin : ∀ {s' : Shared} {H' : Hp}, Inv (X.blk sb Hb scope ce fp) ([] ++ pinsAt fp sf.heap) σg H' s' → Nx H' → ∃ m, m < n ∧ ∃ i H', Inv (X.blk sb Hb scope ce fp) [] (L2.wipe σ (own.map (·.2))) H' s' ∧ tn i s'.heap ∧ (∀ b ∈ fp, H' b = none) ∧ W i m H' := fun {s' H'} J' nx => by
        obtain ⟨m', hm, w'⟩ := hNx H' nx
        have keep : ∀ b ∈ fp, ∀ o, sf.heap.get? b = some o → s'.heap.get? b = some o ∧ H' b = none := fun b hb' o e => by
          have z := J'.pin (b, o) (List.mem_append_right _ (List.mem_append_right _ (mem_pinsAt hb' e)))
          exact ⟨z.1, z.2.1⟩
        refine ⟨m', hm, i + 1, H', (J'.unpinned (pins := [])).weak (by rw [← hwg, wipe_length]) (fun j v e => (wipe_some (by rw [← hwg] at e; exact e)).1), T.keep _ _ _ stf fun b hb' o e => (keep b hb' o e).1, fun b hb' => ?_, w'⟩
        obtain ⟨o, e, _⟩ := T.obj _ _ stf b hb'
        exact (keep b hb' o e).2
      cases b with
      | false =>
        simp only [Bool.false_eq_true, if_false] at qh ⊢
        exact fin Ih qh
      | true =>
        simp only [if_true] at qh ⊢
        refine thnF (pe.run _ sh σg Hh _ Ih qh) fun z si ⟨yv, Hi, Ii, ri, ra⟩ => ?_
        refine thnF (hA (X.blk sb Hb scope ce fp) rfl rfl _ si σg Hi (.ref D) [yv] (.ref D) [z] _ Ii rfl (.cons ri .nil) ra) fun _ sj ⟨_, Hj, Ij, _, nx⟩ => fin Ij nx
  exact PpSet.codeAny_compStart_set loop (T.self X.A 0 _ _ _ stc loop)
end
end Ev
namespace Ev
open PySem L2
variable [WW]
section
variable {X : Cx}
theorem cr_lenSet : CallR X (.builtin "len") (fun vs H Q => ∃ (a : Addr) (S : Int → Bool) (n : Nat), vs = [V.ref a] ∧ H a = some (SetO X.w a S n) ∧ n < scanBound ∧ Q (.int n) H) := by
  intro pins s σ H vs us Q I r h
  obtain ⟨a, S, n, rfl, ha, hn, q⟩ := h
  rw [Vals.ref1 r]
  obtain ⟨o, es, ep, t, ho, hex, hd, _, _, _, _, hf, hz, _⟩ := setO_get I ha
  refine call_len_set ho hex hd hf (by rw [hz]; unfold scanBound at hn; omega) ⟨.int n, H, I.tok _, ⟨_, by rw [hz]⟩, q⟩
end
end Ev
namespace Ev
open PySem L2 PySem.Spec PyProof.Rows
variable [WW]
def txtOf (z : Int × Value) : Str := match z.2 with | .str y _ => y | _ => Str.empty
def GoodS (w : World) (z : Int × Value) : Prop := ∃ y tk, z.2 = Value.str y tk ∧ z.1 = hashStr w y
def TxR (w : World) (hp : Heap) (q : Addr) (M : Str → Bool) (c : Nat) : Prop :=
  ∃ ob xs e tb, hp.get? q = some ob ∧ ob.ExactSet ∧ ob.data = .set xs e tb ∧ (∀ z ∈ xs.toList, GoodS w z) ∧ (xs.toList.map txtOf).Nodup ∧ (∀ y, M y = true ↔ y ∈ xs.toList.map txtOf) ∧
    xs.size < scanBound ∧ tb.fits xs.size = true ∧ xs.size = c ∧ Ris tb.place.toList ∧ (w.params.followText "set-order" = true ∨ tb.led = true)
section
variable {P : Program} {w : World} {hp hp' : Heap} {q : Addr} {M : Str → Bool} {c : Nat}
theorem TxR.at (R : TxR w hp q M c) (k : ∀ u, hp.get? q = some u → hp'.get? q = some u) : TxR w hp' q M c := by
  obtain ⟨ob, xs, e, tb, hq, rest⟩ := R
  exact ⟨ob, xs, e, tb, k ob hq, rest⟩
end
def TxO (w : World) (a : Addr) (M : Str → Bool) (c : Nat) : HO := .ext fun h => TxR w h a M c
section
variable {X : Cx}
def rTxAdd (w : World) : V → List V → Hp → VK → Prop := fun x xs H Q => ∃ (a : Addr) (y : Str) (M : Str → Bool) (c : Nat), x = V.ref a ∧ xs = [V.str y] ∧ H a = some (TxO w a M c) ∧ c + 1 < scanBound ∧
  Q .non (upd H a (TxO w a (fun j => M j || decide (j = y)) (if M y = true then c else c + 1)))
def rTxSorted (w : World) : List V → Hp → VK → Prop := fun vs H Q => ∃ (a : Addr) (M : Str → Bool) (c : Nat), vs = [V.ref a] ∧ H a = some (TxO w a M c) ∧
  ∀ (ys : List Str) (p : Addr), sortedS ys = true → ys.Nodup → (∀ k, k ∈ ys ↔ M k = true) → ys.length = c → H p = none → Q (.ref p) (upd H p (.lst (ys.map V.str)))
end
end Ev
namespace Ev
open PySem L2 PySem.Spec PyProof.Rows
variable [WW]
theorem leS_iff (a b : Str) : leS a b = true ↔ a.cps.toList ≤ b.cps.toList := by
  unfold leS
  rw [ltCps_eq]
  simp
theorem leS_total (a b : Str) : leS a b = true ∨ leS b a = true := by
  rw [leS_iff, leS_iff]
  exact List.le_total _ _
theorem leS_trans {a b c : Str} (h1 : leS a b = true) (h2 : leS b c = true) : leS a c = true := by
  rw [leS_iff] at *
  exact List.le_trans h1 h2
theorem leS_anti {a b : Str} (h1 : leS a b = true) (h2 : leS b a = true) : a = b := by
  rw [leS_iff] at *
  have z := List.le_antisymm h1 h2
  cases a; cases b
  simp only [Str.mk.injEq]
  exact Array.toList_inj.mp z
theorem insS_perm (x : Str) : ∀ l : List Str, (insS x l).Perm (x :: l)
  | [] => List.Perm.refl _
  | y :: r => by
    unfold insS
    by_cases c : leS x y = true
    · rw [if_pos c]
    · rw [if_neg c]
      exact ((insS_perm x r).cons y).trans (List.Perm.swap x y r)
theorem sortS_perm : ∀ l : List Str, (sortS l).Perm l
  | [] => List.Perm.refl _
  | x :: r => (insS_perm x _).trans ((sortS_perm r).cons x)
theorem insS_srt (x : Str) : ∀ l : List Str, l.Pairwise (fun a b => leS a b = true) → (insS x l).Pairwise fun a b => leS a b = true
  | [], _ => by simp [insS]
  | y :: r, h => by
    unfold insS
    have h' := List.pairwise_cons.mp h
    by_cases c : leS x y = true
    · rw [if_pos c]
      refine List.pairwise_cons.mpr ⟨fun k hk => ?_, h⟩
      rcases List.mem_cons.mp hk with rfl | hk
      · exact c
      · exact leS_trans c (h'.1 k hk)
    · rw [if_neg c]
      refine List.pairwise_cons.mpr ⟨fun k hk => ?_, insS_srt x r h'.2⟩
      rcases List.mem_cons.mp ((insS_perm x r).mem_iff.mp hk) with rfl | hk
      · exact (leS_total k y).resolve_left c
      · exact h'.1 k hk
theorem sortS_srt : ∀ l : List Str, (sortS l).Pairwise fun a b => leS a b = true
  | [] => List.Pairwise.nil
  | x :: r => insS_srt x _ (sortS_srt r)
theorem rising_srt : ∀ (l : List Str) (p : Str), risingS p l = true → (p :: l).Pairwise fun a b => leS a b = true
  | [], p, _ => by simp
  | x :: r, p, h => by
    have h' : (!ltCps x.cps.toList p.cps.toList && risingS x r) = true := h
    rw [Bool.and_eq_true] at h'
    have ih := rising_srt r x h'.2
    refine List.pairwise_cons.mpr ⟨fun k hk => ?_, ih⟩
    have px : leS p x = true := h'.1
    rcases List.mem_cons.mp hk with rfl | hk
    · exact px
    · exact leS_trans px ((List.pairwise_cons.mp ih).1 k hk)
theorem sorted_srt {l : List Str} (h : sortedS l = true) : l.Pairwise fun a b => leS a b = true := by
  cases l with
  | nil => exact List.Pairwise.nil
  | cons x r => exact rising_srt r x h
theorem sortS_uniq {l m : List Str} (p : l.Perm m) (h : sortedS l = true) : l = sortS m :=
  (p.trans (sortS_perm m).symm).eq_of_pairwise (fun a b _ _ h h' => leS_anti h h') (sorted_srt h) (sortS_srt m)
theorem collect_sz {P : Program} {w : World} {A : Around} {Ex : Value → Shared → Prop} {s : Shared} {Q : List Value → Shared → Prop} (r : Addr) {ty : String} {ob : Obj} {xs : Array Value} {m : Nat} (ht : ty = "list" ∨ ty = "tuple")
    (hr : s.heap.get? r = some ob) (hc : ob.cls = .type ty) (hd : ob.data = .seq xs m)
    (k : ∀ h', (∀ b u, s.heap.get? b = some u → h'.get? b = some u) → s.heap.objs.size ≤ h'.objs.size → Q xs.toList { s with heap := h' }) (le : xs.size ≤ sizeLine) :
    wpAny (model P w) A (collect (.ref r)) Q Ex s := by
  unfold collect
  refine wpAny_bind (wpAny_runValue (codeAny_builtin F.entry_proto_collect ?_))
  rw [Around.under_plainId F.plain_proto_collect _]
  show wpAny _ A.in1 (newList [] >>= fun z => again (.builtin "list.__iadd__" ⟨[z, .ref r], []⟩)) _ _ s
  refine wpAny_bind (wpAny_newObj_type ?_)
  refine wpAny_pure ⟨plainId_quiet F.plain_list_iadd _, codeAny_builtin F.entry_list_iadd ?_⟩
  rw [Around.under_plainId F.plain_list_iadd _]
  show wpAny _ A.in1 (Builtin.List.listExtendWith (.ref s.heap.objs.size) (.ref r) (.ref s.heap.objs.size)) _ _ _
  have n1 : (s.heap.push { cls := .type "list", data := .seq ([] : List Value).toArray }).get? s.heap.objs.size = some { cls := .type "list", data := .seq #[] 0 } := Heap.get?_push_size _ rfl
  have n2 := Heap.get?_update_self (Obj.mapSeq (· ++ xs)) n1 rfl
  have last : wpAny (model P w) A (match Value.ref s.heap.objs.size with
      | Value.ref q => do
        match (← load q).data with
          | Data.seq ys _ => pure ys.toList
          | _ => unsupported "internal:collect"
      | _ => unsupported "internal:collect") Q Ex { s with heap := (s.heap.push { cls := .type "list", data := .seq ([] : List Value).toArray }).update s.heap.objs.size (Obj.mapSeq (· ++ xs)) } := by
    show wpAny _ A (load s.heap.objs.size >>= _) _ _ _
    refine wpAny_bind (wpAny_load n2 (wpAny_pure ?_))
    have e : ((#[] : Array Value) ++ xs).toList = xs.toList := by simp
    show Q ((#[] : Array Value) ++ xs).toList _
    rw [e]
    refine k _ (fun b u hb => ?_) (Nat.le_of_lt (Heap.lt_size n2))
    exact (Heap.get?_update_other _ _ (Nat.ne_of_gt (Heap.lt_size hb))).trans (Heap.get?_push_of_some _ hb)
  refine wpAny_mono (wpAny_extend_seq (hsz := le) (A := A) (R := fun z s' => z = .ok (.ret (.ref s.heap.objs.size)) ∧ s' = { s with heap := (s.heap.push { cls := .type "list", data := .seq ([] : List Value).toArray }).update s.heap.objs.size (Obj.mapSeq (· ++ xs)) })
    (s := { s with heap := s.heap.push { cls := .type "list", data := .seq ([] : List Value).toArray } }) _ r _ 0 ht n1 (Heap.get?_push_of_some _ hr) hc hd ⟨rfl, rfl⟩) (fun fin s' z => ?_) (fun e s' z => ?_)
  · cases fin with
    | done f =>
      obtain ⟨e, rfl⟩ := z
      cases e
      exact last
    | again c' => exact ⟨z.1, codeAny_mono z.2 fun r s'' y => by obtain ⟨rfl, rfl⟩ := y; exact last⟩
  · exact absurd z.1 (by simp)
section
variable {X : Cx} {pins : List (Addr × Obj)} {σ : L2.St} {H : Hp} {s : Shared}
theorem row_collect {a : Addr} {xs : List V} {A : Around} {Ex : Value → Shared → Prop} {Q : List Value → Shared → Prop} (I : L2.Inv X pins σ H s) (h : SqL X.K H a xs ∨ SqT X.K H a xs)
    (k : ∀ its h', Vals xs its → its.length ≤ sizeLine → (∀ b o, s.heap.get? b = some o → h'.get? b = some o) → s.heap.objs.size ≤ h'.objs.size → Q its { s with heap := h' }) : wpAny (model X.prog X.w) A (collect (.ref a)) Q Ex s := by
  rcases h with h | h
  · obtain ⟨its, r, pl, hz⟩ := I.list h
    obtain ⟨o, ho, hc, n, hd⟩ := pl.isList
    have rl := r.length
    refine collect_sz a (.inl rfl) ho hc hd (fun h' hk sz => ?_) (by rw [List.size_toArray]; omega)
    exact k its h' r (by omega) hk sz
  · obtain ⟨its, r, pl, hz⟩ := I.tuple h
    obtain ⟨o, ho, hc, n, hd⟩ := (show s.heap.IsTuple a its.toArray from pl)
    have rl := r.length
    refine collect_sz a (.inr rfl) ho hc hd (fun h' hk sz => ?_) (by rw [List.size_toArray]; omega)
    exact k its h' r (by omega) hk sz
theorem lift_sorted {its : List Value} {out : Array Value} {h1 : Heap} {ys : List V} {Q : VK} {n : Nat} (I : L2.Inv X pins σ H s) (k1 : ∀ b o, s.heap.get? b = some o → h1.get? b = some o)
    (hn : (sortedHeap (h1.push (seqObj "list" its.toArray 0)) h1.objs.size its out).get? h1.objs.size = some (seqObj "list" out n)) (rv : Vals ys out.toList) (hl : ys.length ≤ sizeLine) (sz : s.heap.objs.size ≤ h1.objs.size)
    (q : ∀ p, H p = none → Q (.ref p) (upd H p (.lst ys))) : EP X pins σ Q (.ref h1.objs.size) { s with heap := sortedHeap (h1.push (seqObj "list" its.toArray 0)) h1.objs.size its out } := by
  have keep : ∀ b o, s.heap.get? b = some o → (sortedHeap (h1.push (seqObj "list" its.toArray 0)) h1.objs.size its out).get? b = some o := fun b o e => by
    have k := k1 b o e
    have lt := Heap.lt_size k
    rw [sortedHeap_old (Nat.ne_of_lt lt) (by rw [size_push']; exact Nat.lt_succ_of_lt lt)]
    exact Heap.get?_push_of_some _ k
  exact ⟨.ref h1.objs.size, _, I.laid (t' := s.toks) (o := .lst ys) keep sz ⟨hl, out.toList, n, rv, hn⟩, rfl, q _ (I.hok.fresh sz)⟩
end
section
variable {X : Cx}
theorem cr_sortedRS : CallR X (.builtin "sorted") (fun vs H Q => ∃ (a : Addr) (ss : List Str), vs = [V.ref a] ∧ (SqL X.K H a (ss.map V.str) ∨ SqT X.K H a (ss.map V.str)) ∧ ∀ p, H p = none → Q (.ref p) (upd H p (.lst ((sortS ss).map V.str)))) := by
  intro pins s σ H vs us Q I r h
  obtain ⟨a, ss, rfl, hs, q⟩ := h
  rw [Vals.ref1 r]
  refine Calls.call_function_entry kind_sorted plain_sorted entry_sorted (args_sorted1 _) ?_
  unfold Builtin.«sorted»
  refine wpAny_bind (m := checkCount "sorted" 1 1 _) (wpAny_pure ?_)
  refine wpAny_bind (row_collect I hs fun its h1 rv le k1 sz => ?_)
  have sa := rv.strs
  refine wpAny_bind (wpAny_newList ?_ le)
  have hL : (h1.push (seqObj "list" its.toArray 0)).get? h1.objs.size = some (seqObj "list" its.toArray 0) := Heap.get?_push_size _ rfl
  refine wpAny_bind (wpAny_holding (wpAny_call_entry slot_list_sort ⟨_, hL, rfl⟩ entry_list_sort
    (list_sort_treeKAny strKind_oneLt hL sa.keysOf (fun v₁ v₂ rest e => keyKind_strs (by rw [← e]; exact sa)) le fun st' hp hs => ⟨_, rfl, ?_⟩) (args_list_sort _)))
  obtain ⟨ys, a1, a2, a3⟩ := sorted_out_str sa hp hs
  obtain ⟨n, hn⟩ := sortedHeap_at (vs := its) (out := (arrOf st').map (·.2)) hL
  have e := sortS_uniq a2 a3
  subst e
  have rl := rv.length
  rw [List.length_map] at rl
  exact wpAny_pure ⟨_, rfl, lift_sorted (s := s) (h1 := h1) I k1 hn (vals_of_strs a1) (by rw [List.length_map, a2.length_eq, rl]; exact le) sz q⟩
theorem cr_sortedRI : CallR X (.builtin "sorted") (fun vs H Q => ∃ (a : Addr) (is : List Int), vs = [V.ref a] ∧ (SqL X.K H a (is.map V.int) ∨ SqT X.K H a (is.map V.int)) ∧ ∀ (ns : List Int) p, ns.Perm is → ns.Pairwise (· ≤ ·) → H p = none → Q (.ref p) (upd H p (.lst (ns.map V.int)))) := by
  intro pins s σ H vs us Q I r h
  obtain ⟨a, is, rfl, hs, q⟩ := h
  rw [Vals.ref1 r]
  refine Calls.call_function_entry kind_sorted plain_sorted entry_sorted (args_sorted1 _) ?_
  unfold Builtin.«sorted»
  refine wpAny_bind (m := checkCount "sorted" 1 1 _) (wpAny_pure ?_)
  refine wpAny_bind (row_collect I hs fun its h1 rv le k1 sz => ?_)
  have sa := rv.ints
  refine wpAny_bind (wpAny_newList ?_ le)
  have hL : (h1.push (seqObj "list" its.toArray 0)).get? h1.objs.size = some (seqObj "list" its.toArray 0) := Heap.get?_push_size _ rfl
  refine wpAny_bind (wpAny_holding (wpAny_call_entry slot_list_sort ⟨_, hL, rfl⟩ entry_list_sort (list_sort_treeAny hL sa le fun out ns' a1 a2 a3 => ⟨_, rfl, ?_⟩) (args_list_sort _)))
  obtain ⟨n, hn⟩ := sortedHeap_at (vs := its) (out := out) hL
  have rl := rv.length
  rw [List.length_map] at rl
  exact wpAny_pure ⟨_, rfl, lift_sorted (s := s) (h1 := h1) I k1 hn (vals_of_ints a1) (by rw [List.length_map, a2.length_eq, rl]; exact le) sz fun p hp => q ns' p a2 a3 hp⟩
end
end Ev
namespace SumL
open PySem PySem.Spec PyProof.Rows
def catN (its : Nat → Array Value) : Nat → Array Value
  | 0 => #[]
  | i + 1 => catN its i ++ its i
theorem args2 (a b : Value) : argsOk "sum" ⟨[a, b], []⟩ := by unfold argsOk; kernel_rfl
theorem l_str : isSubtype (.type "list") (.type "str") = pure false := by rw [isSubtype_type]; kernel_rfl
theorem l_bytes : isSubtype (.type "list") (.type "bytes") = pure false := by rw [isSubtype_type]; kernel_rfl
theorem l_barr : isSubtype (.type "list") (.type "bytearray") = pure false := by rw [isSubtype_type]; kernel_rfl
section
variable {prog : Program} {w : World} {A : Around} {J ax : Addr} {rows : Array Value} {adr : Nat → Addr} {its : Nat → Array Value} {cs : Nat → Nat}
theorem loop (hh : A.in1.handled = none) (hne : ax ≠ J) (hrow : ∀ (i : Nat) (v : Value), rows[i]? = some v → v = Value.ref (adr i)) (Z : Addr) {R : Result → Shared → Prop} :
    ∀ (k i : Nat) (s : Shared) (Y : Addr) (c cy : Nat), rows.size - i = k → i ≤ rows.size → s.heap.IsListIter J ax i → s.heap.IsList ax rows →
      s.heap.get? Z = some { cls := .type "list", dict := none, data := .seq #[.ref Y] c, slots := #[] } → IsL s.heap Y (catN its i) cy → Z ≠ J → Z ≠ ax → Y ≠ J → Y ≠ Z →
      (∀ j, j < rows.size → IsL s.heap (adr j) (its j) (cs j) ∧ adr j ≠ J ∧ adr j ≠ Z) → (∀ j, j ≤ rows.size → (catN its j).size ≤ sizeLine) →
      (∀ h' tk Y' cy', (∀ b o, b ≠ J → b ≠ Z → s.heap.get? b = some o → h'.get? b = some o) → IsL h' Y' (catN its rows.size) cy' → (i < rows.size → s.heap.get? Y' = none) → (¬ i < rows.size → Y' = Y) → R (.ok (.ret (.ref Y'))) { s with heap := h', toks := tk }) →
      codeAny (model prog w) A (.builtin "sum.loop" ⟨[.ref J, .ref Z, rawInt 2, rawInt 0], []⟩) R s := by
  have W := Walks.list (prog := prog) (w := w) (A := A.in1) hh J ax hne rows
  intro k
  induction k with
  | zero =>
    intro i s Y c cy hk hi it il hZ hY zj za yj yz hl hs hR
    obtain rfl : i = rows.size := by omega
    refine codeAny_builtin F.entry_sum_loop ?_
    rw [Around.under_plainId F.plain_sum_loop _]
    show wpAny _ A.in1 (seqItems? (.ref Z) >>= _) _ _ s
    refine wpAny_bind (wpAny_seqItems hZ rfl ?_)
    show wpAny _ A.in1 (tryCatch (pyNext (.ref J)) _ >>= _) _ _ s
    refine wpAny_bind (wpAny_tryCatch (W.done s _ _ ⟨it, il⟩ fun h' tk hk' => ?_))
    exact wpAny_pure (hR h' tk Y cy (fun b o hb _ e => hk' b o (fun z => hb (List.mem_singleton.mp z)) e) (hk' Y _ (fun z => yj (List.mem_singleton.mp z)) hY) (fun z => absurd z (Nat.lt_irrefl _)) fun _ => rfl)
  | succ k ih =>
    intro i s Y c cy hk hi it il hZ hY zj za yj yz hl hs hR
    have lt : i < rows.size := by omega
    refine codeAny_builtin F.entry_sum_loop ?_
    rw [Around.under_plainId F.plain_sum_loop _]
    show wpAny _ A.in1 (seqItems? (.ref Z) >>= _) _ _ s
    refine wpAny_bind (wpAny_seqItems hZ rfl ?_)
    show wpAny _ A.in1 (tryCatch (pyNext (.ref J)) _ >>= _) _ _ s
    refine wpAny_bind (wpAny_tryCatch (W.item i s _ _ lt ⟨it, il⟩ fun v h' tk hv st' hk' => ?_))
    obtain rfl := hrow i v hv
    have up : ∀ b o, b ≠ J → s.heap.get? b = some o → h'.get? b = some o := fun b o hb e => hk' b o (fun z => hb (List.mem_singleton.mp z)) e
    obtain ⟨e1, e2, e3⟩ := hl i lt
    have e1' : IsL h' (adr i) (its i) (cs i) := up _ _ e2 e1
    have hY' : IsL h' Y (catN its i) cy := up _ _ yj hY
    have hZ' := up _ _ zj hZ
    have size1 := hs (i + 1) lt
    have size2 : (catN its i).size + (its i).size ≤ sizeLine := by
      have : (catN its (i + 1)).size = (catN its i).size + (its i).size := Array.size_append
      omega
    show wpAny _ A.in1 ((holding [Value.ref (adr i)] (binaryOp .Add (.ref Y) (.ref (adr i)))).attempt >>= _) _ _ _
    refine wpAny_bind (wpAny_attempt (wpAny_holding (P.add_list hY' e1' ?_ size2)))
    have fresh : h'.get? h'.objs.size = none := by
      cases q : h'.get? h'.objs.size with
      | none => rfl
      | some o => exact absurd (Heap.lt_size q) (Nat.lt_irrefl _)
    have zf : Z ≠ h'.objs.size := fun z => by rw [z, fresh] at hZ'; cases hZ'
    have hZ2 := Heap.get?_push_of_some { cls := .type "list", data := .seq (catN its i ++ its i) } hZ'
    show wpAny _ A.in1 (updateSeq Z (fun _ => #[.ref h'.objs.size]) >>= _) _ _ _
    refine wpAny_bind ?_
    refine wpAny_updateSeq hZ2 rfl ?_
    have hZ3 := Heap.get?_update_self (Obj.mapSeq fun _ => #[Value.ref h'.objs.size]) hZ2 rfl
    refine wpAny_bind (wpAny_letGo ?_)
    refine wpAny_bind ?_
    refine wpAny_updateSeq hZ3 rfl ?_
    have hZ4 := Heap.get?_update_self (Obj.mapSeq fun _ => #[Value.ref h'.objs.size]) hZ3 rfl
    have keep2 : ∀ b o, b ≠ Z → h'.get? b = some o → (((h'.push { cls := .type "list", data := .seq (catN its i ++ its i) }).update Z (Obj.mapSeq fun _ => #[Value.ref h'.objs.size])).update Z (Obj.mapSeq fun _ => #[Value.ref h'.objs.size])).get? b = some o := fun b o hb e =>
      (Heap.get?_update_other _ _ (Ne.symm hb)).trans ((Heap.get?_update_other _ _ (Ne.symm hb)).trans (Heap.get?_push_of_some _ e))
    have hnew : (((h'.push { cls := .type "list", data := .seq (catN its i ++ its i) }).update Z (Obj.mapSeq fun _ => #[Value.ref h'.objs.size])).update Z (Obj.mapSeq fun _ => #[Value.ref h'.objs.size])).get? h'.objs.size = some { cls := .type "list", data := .seq (catN its i ++ its i) } :=
      (Heap.get?_update_other _ _ zf).trans ((Heap.get?_update_other _ _ zf).trans (Heap.get?_push_size _ rfl))
    have jf : h'.objs.size ≠ J := fun z => by
      obtain ⟨_, o, _⟩ := st'.1
      rw [← z, fresh] at o
      cases o
    refine wpAny_pure ⟨plainId_quiet F.plain_sum_loop _, ih (i + 1) _ h'.objs.size _ 0 (by omega) lt (st'.1.at fun o e => keep2 _ _ (Ne.symm zj) e) (st'.2.at fun o e => keep2 _ _ (Ne.symm za) e) hZ4 hnew zj za jf (Ne.symm zf) (fun j hj => ?_) hs fun h'' tk'' Y' cy' hk'' hY'' f1 f2 => ?_⟩
    · obtain ⟨a1, a2, a3⟩ := hl j hj
      exact ⟨keep2 _ _ a3 (up _ _ a2 a1), a2, a3⟩
    · refine hR h'' tk'' Y' cy' (fun b o hb hz e => hk'' b o hb hz (keep2 b o hz (up b o hb e))) hY'' (fun _ => ?_) fun z => absurd lt z
      by_cases h2 : i + 1 < rows.size
      · have n1 := f1 h2
        cases hs2 : s.heap.get? Y' with
        | none => rfl
        | some o =>
          by_cases hb : Y' = J
          · exfalso
            obtain ⟨o2, q2, _⟩ := (st'.1.at fun o e => keep2 _ _ (Ne.symm zj) e : Heap.IsListIter _ J ax (i + 1))
            rw [hb] at n1
            rw [q2] at n1
            cases n1
          · by_cases hz : Y' = Z
            · exfalso
              rw [hz, hZ4] at n1
              cases n1
            · rw [keep2 _ _ hz (up _ _ hb hs2)] at n1
              cases n1
      · rw [f2 h2]
        cases hs2 : s.heap.get? h'.objs.size with
        | none => rfl
        | some o => 
          have := up _ _ jf hs2
          rw [fresh] at this
          cases this
end
section
variable {prog : Program} {w : World} {A : Around} {E : Value → Shared → Prop} {s : Shared} {l st : Addr} {rows : Array Value} {adr : Nat → Addr} {its : Nat → Array Value} {cs : Nat → Nat} {n0 : Nat}
theorem call_sum {Q : Value → Shared → Prop} (hh : A.handled = none) (hl : s.heap.IsList l rows) (hr : ∀ (i : Nat) (v : Value), rows[i]? = some v → v = Value.ref (adr i)) (h0 : IsL s.heap st #[] n0) (hm : ∀ j, j < rows.size → IsL s.heap (adr j) (its j) (cs j)) (hs : ∀ j, j ≤ rows.size → (catN its j).size ≤ sizeLine) (hp : 0 < rows.size)
    (h : ∀ h' tk Y cy, (∀ b o, s.heap.get? b = some o → h'.get? b = some o) → IsL h' Y (catN its rows.size) cy → s.heap.get? Y = none → Q (.ref Y) { s with heap := h', toks := tk }) :
    wpAny (model prog w) A (call (.builtin "sum") [.ref l, .ref st]) Q E s := by
  refine call_function_tree F.kind_sum F.plain_sum F.entry_sum (args2 _ _) ?_
  unfold Builtin.«sum»
  simp only [List.length_cons, List.length_nil]
  rw [if_neg (by decide)]
  refine wpAny_bind (wpAny_of_eq (show Builtin.Builtins.bindParams "sum" ["start"] 0 ⟨[.ref st], []⟩ = pure [some (.ref st)] from rfl) ?_)
  have ll : l < s.heap.objs.size := by
    obtain ⟨_, e, _⟩ := hl
    exact Heap.lt_size e
  refine wpAny_bind (wpAny_pyIter_list hl ?_)
  refine wpAny_bind (wpAny_pure ?_)
  have up1 : ∀ b o, s.heap.get? b = some o → (s.heap.push { cls := .type "list_iterator", data := .fields #[.ref l, .int 0 0] }).get? b = some o := fun b o e => Heap.get?_push_of_some _ e
  have ty : ∀ (x : Shared), x.heap = s.heap.push { cls := .type "list_iterator", data := .fields #[.ref l, .int 0 0] } → x.TypeIs (.ref st) "list" := fun x e => ⟨_, by rw [e]; exact up1 _ _ h0, rfl⟩
  simp only [List.forIn_cons, List.forIn_nil]
  refine wpAny_bind (wpAny_bind (wpAny_bind (wpAny_isInstance (T := "list") (b := false) (ty _ rfl) l_str ?_)))
  simp only [Bool.false_eq_true, if_false]
  refine wpAny_pure (wpAny_bind (wpAny_bind (wpAny_isInstance (T := "list") (b := false) (ty _ rfl) l_bytes ?_)))
  simp only [Bool.false_eq_true, if_false]
  refine wpAny_pure (wpAny_bind (wpAny_bind (wpAny_isInstance (T := "list") (b := false) (ty _ rfl) l_barr ?_)))
  simp only [Bool.false_eq_true, if_false]
  refine wpAny_pure (wpAny_pure ?_)
  refine wpAny_bind (wpAny_newObj_type ?_)
  have lj : ∀ b o, s.heap.get? b = some o → b ≠ s.heap.objs.size := fun b o e => Nat.ne_of_lt (Heap.lt_size e)
  have sz : (s.heap.push { cls := .type "list_iterator", data := .fields #[.ref l, .int 0 0] }).objs.size = s.heap.objs.size + 1 := Heap.size_push _ _
  have lz : ∀ b o, s.heap.get? b = some o → b ≠ (s.heap.push { cls := .type "list_iterator", data := .fields #[.ref l, .int 0 0] }).objs.size := fun b o e => by
    rw [sz]
    exact Nat.ne_of_lt (Nat.lt_succ_of_lt (Heap.lt_size e))
  have up2 : ∀ b o, s.heap.get? b = some o → ((s.heap.push { cls := .type "list_iterator", data := .fields #[.ref l, .int 0 0] }).push { cls := .type "list", data := .seq #[.ref st] }).get? b = some o := fun b o e => Heap.get?_push_of_some _ (up1 b o e)
  refine wpAny_pure ⟨plainId_quiet F.plain_sum_loop _, loop (J := s.heap.objs.size) (ax := l) (rows := rows) (adr := adr) (its := its) (cs := cs) hh (Nat.ne_of_lt ll) hr (s.heap.push { cls := .type "list_iterator", data := .fields #[.ref l, .int 0 0] }).objs.size rows.size 0 _ st 0 n0 rfl (Nat.zero_le _)
    ⟨_, Heap.get?_push_of_some _ (Heap.get?_push_size _ rfl), rfl, rfl⟩ (hl.at fun o e => up2 _ _ e) (Heap.get?_push_size _ rfl) (up2 _ _ h0) (by rw [sz]; exact Nat.succ_ne_self _) (by rw [sz]; exact Ne.symm (Nat.ne_of_lt (Nat.lt_succ_of_lt ll))) (lj _ _ h0) (lz _ _ h0) (fun j hj => ⟨up2 _ _ (hm j hj), lj _ _ (hm j hj), lz _ _ (hm j hj)⟩) hs fun h' tk Y cy hk hY f1 _ => ?_⟩
  refine h h' tk Y cy (fun b o e => hk b o (lj b o e) (lz b o e) (up2 b o e)) hY ?_
  have n1 := f1 hp
  cases q : s.heap.get? Y with
  | none => rfl
  | some o =>
    rw [up2 _ _ q] at n1
    cases n1
end
end SumL

namespace SumL
open PySem PySem.Spec PyProof.Rows L2
theorem vals_refs : ∀ {rs : List (Addr × List V)} {us : List Value}, Vals (rs.map fun r => V.ref r.1) us → us = rs.map fun r => Value.ref r.1
  | [], us, h => by
    cases h
    rfl
  | r :: rs, us, h => by
    cases h with
    | cons a b =>
      rw [vals_refs b]
      have a : _ = Value.ref r.1 := a
      rw [a]
      rfl
def rSumL : List V → Hp → VK → Prop := fun vs H Q => ∃ (a b : Addr) (rs : List (Addr × List V)), vs = [.ref a, .ref b] ∧ Rd H a (.lst (rs.map fun r => V.ref r.1)) ∧ Rd H b (.lst []) ∧ (∀ r ∈ rs, Rd H r.1 (.lst r.2)) ∧ rs ≠ [] ∧
  (rs.map (·.2)).flatten.length ≤ sizeLine ∧ ∀ p, H p = none → Q (.ref p) (upd H p (.lst (rs.map (·.2)).flatten))
theorem cr_sumL {X : Cx} (hc : X.calm = true) : CallR X (.builtin "sum") rSumL := by
  intro pins s σ H vs us Q I r h
  obtain ⟨a, b, rs, rfl, ha, hb, hm, hne, hz, q⟩ := h
  cases r with
  | cons r0 r1 =>
  cases r1 with
  | cons r2 r3 =>
  cases r3
  have r0 : _ = Value.ref a := r0
  have r2 : _ = Value.ref b := r2
  subst r0 r2
  obtain ⟨_, its, n1, rv, e1⟩ := ha.ok I.hok
  obtain rfl := vals_refs rv
  obtain ⟨_, its0, n0, rv0, e0⟩ := hb.ok I.hok
  obtain rfl : its0 = [] := by
    cases rv0
    rfl
  have ch : ∀ j : Nat, ∃ p : List Value × Nat, ∀ r : Addr × List V, rs[j]? = some r → Vals r.2 p.1 ∧ s.heap.get? r.1 = some { cls := .type "list", data := .seq p.1.toArray p.2 } := fun j => by
    cases e : rs[j]? with
    | none => exact ⟨([], 0), fun r z => by cases z⟩
    | some r =>
      obtain ⟨_, it, n, v, g⟩ := (hm r (List.mem_of_getElem? e)).ok I.hok
      exact ⟨(it, n), fun r' z => by
        cases z
        exact ⟨v, g⟩⟩
  let P : Nat → List Value × Nat := fun j => Classical.choose (ch j)
  have hP : ∀ j r, rs[j]? = some r → Vals r.2 (P j).1 ∧ s.heap.get? r.1 = some { cls := .type "list", data := .seq (P j).1.toArray (P j).2 } := fun j => Classical.choose_spec (ch j)
  let IT : Nat → Array Value := fun j => (P j).1.toArray
  have vs : ∀ k, k ≤ rs.length → Vals ((rs.take k).map (·.2)).flatten (catN IT k).toList := by
    intro k
    induction k with
    | zero => intro _; exact .nil
    | succ k ih =>
      intro hk
      obtain ⟨r, hr⟩ : ∃ r, rs[k]? = some r := ⟨rs[k], List.getElem?_eq_getElem (by omega)⟩
      have t : rs.take (k + 1) = rs.take k ++ [r] := by
        rw [List.take_add_one, hr]
        rfl
      have c : (catN IT (k + 1)).toList = (catN IT k).toList ++ (P k).1 := by
        show (catN IT k ++ IT k).toList = _
        rw [Array.toList_append]
      rw [t, c, List.map_append, List.flatten_append]
      refine (ih (by omega)).append ?_
      show Vals ([r.2].flatten) _
      rw [List.flatten_cons, List.flatten_nil, List.append_nil]
      exact (hP k r hr).1
  have le : ∀ k, ((rs.take k).map (·.2)).flatten.length ≤ (rs.map (·.2)).flatten.length := fun k => by
    have e := List.take_append_drop k rs
    have e2 : (rs.map (·.2)).flatten = ((rs.take k).map (·.2)).flatten ++ ((rs.drop k).map (·.2)).flatten := by
      rw [← List.flatten_append, ← List.map_append, e]
    rw [e2, List.length_append]
    omega
  have sz : ∀ j, j ≤ rs.length → (catN IT j).size ≤ sizeLine := fun j hj => by
    have l1 := (vs j hj).length
    have l2 := le j
    rw [← Array.length_toList, ← l1]
    omega
  have rsz : ((rs.map fun r => Value.ref r.1).toArray).size = rs.length := by simp
  refine call_sum (rows := (rs.map fun r => Value.ref r.1).toArray) (adr := fun j => ((rs[j]?).map (·.1)).getD 0) (its := IT) (cs := fun j => (P j).2) (I.ok.hd hc) ⟨_, e1, rfl, _, rfl⟩ (fun i v hv => ?_) e0 (fun j hj => ?_) (fun j hj => sz j (by omega)) (by
    rw [rsz]
    exact List.length_pos_iff.mpr hne) fun h' tk Y cy hk hY hn => ?_
  · rw [List.getElem?_toArray, List.getElem?_map] at hv
    cases e : rs[i]? with
    | none => rw [e] at hv; cases hv
    | some r =>
      rw [e] at hv
      cases hv
      rfl
  · rw [rsz] at hj
    have e : rs[j]? = some rs[j] := List.getElem?_eq_getElem hj
    show s.heap.get? (((rs[j]?).map (·.1)).getD 0) = _
    rw [e]
    exact (hP j _ e).2
  · rw [rsz] at hY
    have v := vs rs.length (Nat.le_refl _)
    rw [List.take_length] at v
    exact ⟨.ref Y, _, I.laidN (t' := tk) (o := .lst (rs.map (·.2)).flatten) hk hn (I.hok.gone hn) ⟨hz, _, cy, v, by
      have : h'.get? Y = some { cls := .type "list", data := .seq (catN IT rs.length) cy } := hY
      rw [this]⟩, rfl, q Y (I.hok.gone hn)⟩
end SumL
namespace Ev
open PySem L2
variable [WW]
theorem insI_perm (i : Int) : ∀ l : List Int, (insI i l).Perm (i :: l)
  | [] => List.Perm.refl _
  | j :: r => by
    unfold insI
    by_cases h : i ≤ j
    · rw [if_pos h]
    · rw [if_neg h]
      exact ((insI_perm i r).cons j).trans (List.Perm.swap i j r)
theorem sortI_perm : ∀ l : List Int, (sortI l).Perm l
  | [] => List.Perm.refl _
  | i :: r => (insI_perm i _).trans ((sortI_perm r).cons i)
theorem insI_srt (i : Int) : ∀ l : List Int, l.Pairwise (· ≤ ·) → (insI i l).Pairwise (· ≤ ·)
  | [], _ => by simp [insI]
  | j :: r, h => by
    unfold insI
    have h' := List.pairwise_cons.mp h
    by_cases c : i ≤ j
    · rw [if_pos c]
      refine List.pairwise_cons.mpr ⟨fun k hk => ?_, h⟩
      rcases List.mem_cons.mp hk with rfl | hk
      · exact c
      · exact Int.le_trans c (h'.1 k hk)
    · rw [if_neg c]
      refine List.pairwise_cons.mpr ⟨fun k hk => ?_, insI_srt i r h'.2⟩
      rcases List.mem_cons.mp ((insI_perm i r).mem_iff.mp hk) with rfl | hk
      · omega
      · exact h'.1 k hk
theorem sortI_srt : ∀ l : List Int, (sortI l).Pairwise (· ≤ ·)
  | [] => List.Pairwise.nil
  | i :: r => insI_srt i _ (sortI_srt r)
theorem srt_uniq {l m : List Int} (p : l.Perm m) (h1 : l.Pairwise (· ≤ ·)) (h2 : m.Pairwise (· ≤ ·)) : l = m :=
  p.eq_of_pairwise (fun a b _ _ h h' => Int.le_antisymm h h') h1 h2
theorem sumI_sum : ∀ l : List Int, sumI l = l.sum
  | [] => rfl
  | i :: r => by rw [List.sum_cons, ← sumI_sum r]; rfl
theorem maxI_max : ∀ (l : List Int) (m : Int), (maxI m l = m ∨ maxI m l ∈ l) ∧ m ≤ maxI m l ∧ ∀ y ∈ l, y ≤ maxI m l
  | [], m => ⟨.inl rfl, Int.le_refl _, fun y h => by cases h⟩
  | i :: r, m => by
    obtain ⟨h1, h2, h3⟩ := maxI_max r (if m < i then i else m)
    show (maxI (if m < i then i else m) r = m ∨ maxI (if m < i then i else m) r ∈ i :: r) ∧ m ≤ maxI (if m < i then i else m) r ∧ ∀ y ∈ i :: r, y ≤ maxI (if m < i then i else m) r
    by_cases c : m < i
    · rw [if_pos c] at h1 h2 h3 ⊢
      refine ⟨.inr ?_, by omega, fun y hy => ?_⟩
      · rcases h1 with e | h
        · rw [e]; exact List.mem_cons_self
        · exact List.mem_cons_of_mem _ h
      · rcases List.mem_cons.mp hy with rfl | hy
        · exact h2
        · exact h3 y hy
    · rw [if_neg c] at h1 h2 h3 ⊢
      refine ⟨h1.imp id (List.mem_cons_of_mem _), h2, fun y hy => ?_⟩
      rcases List.mem_cons.mp hy with rfl | hy
      · omega
      · exact h3 y hy
theorem minI_min : ∀ (l : List Int) (m : Int), (minI m l = m ∨ minI m l ∈ l) ∧ minI m l ≤ m ∧ ∀ y ∈ l, minI m l ≤ y
  | [], m => ⟨.inl rfl, Int.le_refl _, fun y h => by cases h⟩
  | i :: r, m => by
    obtain ⟨h1, h2, h3⟩ := minI_min r (if i < m then i else m)
    show (minI (if i < m then i else m) r = m ∨ minI (if i < m then i else m) r ∈ i :: r) ∧ minI (if i < m then i else m) r ≤ m ∧ ∀ y ∈ i :: r, minI (if i < m then i else m) r ≤ y
    by_cases c : i < m
    · rw [if_pos c] at h1 h2 h3 ⊢
      refine ⟨.inr ?_, by omega, fun y hy => ?_⟩
      · rcases h1 with e | h
        · rw [e]; exact List.mem_cons_self
        · exact List.mem_cons_of_mem _ h
      · rcases List.mem_cons.mp hy with rfl | hy
        · exact h2
        · exact h3 y hy
    · rw [if_neg c] at h1 h2 h3 ⊢
      refine ⟨h1.imp id (List.mem_cons_of_mem _), h2, fun y hy => ?_⟩
      rcases List.mem_cons.mp hy with rfl | hy
      · omega
      · exact h3 y hy
theorem max_uniq {l : List Int} {a b : Int} (ha : a ∈ l) (hb : b ∈ l) (h1 : ∀ y ∈ l, y ≤ a) (h2 : ∀ y ∈ l, y ≤ b) : a = b := Int.le_antisymm (h2 a ha) (h1 b hb)
theorem min_uniq {l : List Int} {a b : Int} (ha : a ∈ l) (hb : b ∈ l) (h1 : ∀ y ∈ l, a ≤ y) (h2 : ∀ y ∈ l, b ≤ y) : a = b := Int.le_antisymm (h1 b hb) (h2 a ha)
theorem maxI_mem {i : Int} {r : List Int} : maxI i r ∈ i :: r ∧ ∀ y ∈ i :: r, y ≤ maxI i r := by
  obtain ⟨h1, h2, h3⟩ := maxI_max r i
  refine ⟨?_, fun y hy => ?_⟩
  · rcases h1 with e | h
    · rw [e]; exact List.mem_cons_self
    · exact List.mem_cons_of_mem _ h
  · rcases List.mem_cons.mp hy with rfl | hy
    · exact h2
    · exact h3 y hy
theorem minI_mem {i : Int} {r : List Int} : minI i r ∈ i :: r ∧ ∀ y ∈ i :: r, minI i r ≤ y := by
  obtain ⟨h1, h2, h3⟩ := minI_min r i
  refine ⟨?_, fun y hy => ?_⟩
  · rcases h1 with e | h
    · rw [e]; exact List.mem_cons_self
    · exact List.mem_cons_of_mem _ h
  · rcases List.mem_cons.mp hy with rfl | hy
    · exact h2
    · exact h3 y hy
theorem FzL.of_ints {K : PySem.W.Frag} {H : Hp} {av : Addr → Prop} : ∀ is : List Int, FzL K H av (is.map T.int) (is.map V.int)
  | [] => rfl
  | i :: r => ⟨.int i, r.map V.int, rfl, rfl, FzL.of_ints r⟩
theorem Mk.ints {K : PySem.W.Frag} {H : Hp} {av : Addr → Prop} {p : Addr} (is : List Int) (hp : H p = none) : Mk K H av (.lst (is.map fun i => W.val (.int i))) (.ref p) (upd H p (.lst (is.map V.int))) [p] := by
  have e : is.map (fun i => W.val (.int i)) = (is.map T.int).map W.val := by rw [List.map_map]; rfl
  rw [e]
  exact Mk.fzl hp (FzL.of_ints is)
theorem CallR.imp {X : Cx} {f : Value} {r r' : List V → Hp → VK → Prop} (h : CallR X f r) (i : ∀ xs H Q, r' xs H Q → r xs H Q) : CallR X f r' :=
  fun pins s σ H xs us Q I rv q => h pins s σ H xs us Q I rv (i xs H Q q)
section
variable {X : Cx} {H : Hp} {av : Addr → Prop} {K : PySem.W.Frag}
theorem one_of {ts : List T} {t : T} {xs : List V} (h : FzL K H av [t] xs) : ∃ v, xs = [v] ∧ Fz K H av t v := by
  obtain ⟨v, r, rfl, a, b⟩ := h
  cases (show r = [] from b)
  exact ⟨v, rfl, a⟩
theorem two_of {t u : T} {xs : List V} (h : FzL K H av [t, u] xs) : ∃ v w, xs = [v, w] ∧ Fz K H av t v ∧ Fz K H av u w := by
  obtain ⟨v, r, rfl, a, w, r2, rfl, b, c⟩ := h
  cases (show r2 = [] from c)
  exact ⟨v, w, rfl, a, b⟩

theorem ints_sq {ts : List T} {xs : List V} {is : List Int} (e : T.ints ts = some is) (h : FzL K H av ts xs) : xs = is.map V.int := by
  induction ts generalizing xs is with
  | nil =>
    cases e
    exact h
  | cons t ts ih =>
    obtain ⟨v, r, rfl, h1, h2⟩ := h
    cases t with
    | int i =>
      obtain ⟨js, e1, e2⟩ := Option.map_eq_some_iff.mp (show (T.ints ts).map (i :: ·) = some is from e)
      subst e2
      rw [ih e1 h2, show v = .int i from h1]
      rfl
    | _ => cases e
theorem bls_sq {ts : List T} {xs : List V} {is : List Bool} (e : T.bls ts = some is) (h : FzL K H av ts xs) : xs = is.map V.bl := by
  induction ts generalizing xs is with
  | nil =>
    cases e
    exact h
  | cons t ts ih =>
    obtain ⟨v, r, rfl, h1, h2⟩ := h
    cases t with
    | bl i =>
      obtain ⟨js, e1, e2⟩ := Option.map_eq_some_iff.mp (show (T.bls ts).map (i :: ·) = some is from e)
      subst e2
      rw [ih e1 h2, show v = .bl i from h1]
      rfl
    | _ => cases e
theorem bi_len : CallR X (.builtin "len") (rPL X.K lenT) := by
  refine CallR.imp call_len fun xs H Q ⟨av, ts, w, hf, e, q⟩ => ?_
  unfold lenT at e
  split at e
  · cases e
    obtain ⟨v, rfl, a, zs, rfl, ha, _, hl⟩ := one_of (ts := []) hf
    exact ⟨_, _, rfl, .inl ⟨zs, .inl ha, rfl⟩, by rw [← hl.len]; exact q _ _ _ (Mk.int _)⟩
  · cases e
    obtain ⟨v, rfl, a, zs, rfl, ha, hl⟩ := one_of (ts := []) hf
    exact ⟨_, _, rfl, .inr ⟨zs, ha, rfl⟩, by rw [← hl.len]; exact q _ _ _ (Mk.int _)⟩
  · cases e
    obtain ⟨v, rfl, a, zs, o, rfl, ha, _, _, hl⟩ := one_of (ts := []) hf
    exact ⟨_, _, rfl, .inr ⟨zs, .inl (.inr ⟨o, ha⟩), rfl⟩, by rw [← hl.len]; exact q _ _ _ (Mk.int _)⟩
  · cases e
    obtain ⟨v, rfl, a, rfl, ha⟩ := one_of (ts := []) hf
    exact ⟨_, _, rfl, .inl ⟨_, scr_sq ha, rfl⟩, by rw [List.length_map]; exact q _ _ _ (Mk.int _)⟩
  · rename_i z
    by_cases c : decide (z.length ≤ 16777216) = true
    · rw [if_pos c] at e
      cases e
      obtain ⟨v, rfl, rfl⟩ := one_of (ts := []) hf
      exact ⟨_, _, rfl, ⟨by rw [sizeLine_eq]; exact of_decide_eq_true c, rfl⟩, q _ _ _ (Mk.int _)⟩
    · rw [if_neg c] at e; cases e
  · cases e
theorem CallR.or {f : Value} {r r' : List V → Hp → VK → Prop} (h : CallR X f r) (h' : CallR X f r') : CallR X f fun xs H Q => r xs H Q ∨ r' xs H Q :=
  fun pins s σ H xs us Q I rv q => q.elim (h pins s σ H xs us Q I rv) (h' pins s σ H xs us Q I rv)
theorem Mk.dct {K : PySem.W.Frag} {H : Hp} {av : Addr → Prop} {p : Addr} {kvs : List (Key × V)} {ks : List Key} {ts : List T} (hp : H p = none) (d : DctO ks (kvs.map (·.2)) (.dK kvs)) (h : FzL K H av ts (kvs.map (·.2))) : Mk K H av (.nd (.dct ks) (ts.map .val)) (.ref p) (upd H p (.dK kvs)) [p] where
  ext := fun b o q => newkeep hp b o q
  nd := List.nodup_cons.mpr ⟨fun z => (by cases z), List.nodup_nil⟩
  fresh := fun b hb => by
    rcases List.mem_cons.mp hb with rfl | z
    · exact hp
    · cases z
  own := ⟨p, _, _, [], rfl, rfl, upd_same, ⟨d, rfl⟩, OwnL.mono _ _ [] (fun b o q _ => q.up (newkeep hp)) (newtups hp) (fun b z => by
    rcases z with z | z
    · rcases List.mem_cons.mp z with rfl | z
      · exact .inr hp
      · cases z
    · exact .inl z) (FzL.own ts _ h)⟩
theorem strs_sq {K : PySem.W.Frag} {H : Hp} {av : Addr → Prop} {ts : List T} {xs : List V} {ss : List Str} (e : T.strs ts = some ss) (h : FzL K H av ts xs) : xs = ss.map V.str := by
  induction ts generalizing xs ss with
  | nil => cases (show xs = [] from h); cases e; rfl
  | cons t ts ih =>
    obtain ⟨v, r, rfl, a, b⟩ := h
    cases t with
    | str i =>
      obtain ⟨js, e1, e2⟩ := Option.map_eq_some_iff.mp (show (T.strs ts).map (i :: ·) = some ss from e)
      subst e2
      rw [ih e1 b, show v = V.str i from a]
      rfl
    | _ => cases e
theorem strs_fz {K : PySem.W.Frag} {H : Hp} {av : Addr → Prop} : ∀ ss : List Str, FzL K H av (ss.map T.str) (ss.map V.str)
  | [] => rfl
  | x :: r => ⟨_, _, rfl, rfl, strs_fz r⟩
theorem Mk.strs {K : PySem.W.Frag} {H : Hp} {av : Addr → Prop} {p : Addr} (ss : List Str) (hp : H p = none) : Mk K H av (.lst (ss.map fun x => .val (.str x))) (.ref p) (upd H p (.lst (ss.map V.str))) [p] := by
  have m := Mk.fzl hp (strs_fz (K := K) (H := H) (av := av) ss)
  rw [List.map_map] at m
  exact m
theorem sortL_ok {ts : List T} {xs : List V} {w : W} {H : Hp} {av : Addr → Prop} {Q : VK} {a : Addr} (e : sortL ts = some w) (hl : FzL X.K H av ts xs) (hs : SqL X.K H a xs ∨ SqT X.K H a xs) (q : ∀ v H' B, Mk X.K H av w v H' B → Q v H') :
    (∃ (b : Addr) (is : List Int), [V.ref a] = [V.ref b] ∧ (SqL X.K H b (is.map V.int) ∨ SqT X.K H b (is.map V.int)) ∧ ∀ (ns : List Int) p, ns.Perm is → ns.Pairwise (· ≤ ·) → H p = none → Q (.ref p) (upd H p (.lst (ns.map V.int)))) ∨
    ∃ (b : Addr) (ss : List Str), [V.ref a] = [V.ref b] ∧ (SqL X.K H b (ss.map V.str) ∨ SqT X.K H b (ss.map V.str)) ∧ ∀ p, H p = none → Q (.ref p) (upd H p (.lst ((sortS ss).map V.str))) := by
  unfold sortL at e
  cases e1 : T.ints ts with
  | some is =>
    rw [e1] at e
    cases e
    have ez := ints_sq e1 hl
    subst ez
    refine .inl ⟨a, is, rfl, hs, fun ns' p pm ps hp => ?_⟩
    rw [srt_uniq (pm.trans (sortI_perm is).symm) ps (sortI_srt is)]
    exact q _ _ _ (Mk.ints _ hp)
  | none =>
    rw [e1] at e
    obtain ⟨ss, e2, e3⟩ := Option.map_eq_some_iff.mp e
    subst e3
    have ez := strs_sq e2 hl
    subst ez
    exact .inr ⟨a, ss, rfl, hs, fun p hp => q _ _ _ (Mk.strs _ hp)⟩
theorem bi_sorted : CallR X (.builtin "sorted") (rPL X.K sortedT) := by
  refine CallR.imp (CallR.or cr_sortedRI cr_sortedRS) fun xs H Q ⟨av, ts, w, hf, e, q⟩ => ?_
  unfold sortedT at e
  split at e
  · obtain ⟨v, rfl, a, zs, rfl, ha, _, hl⟩ := one_of (ts := []) hf
    exact sortL_ok e hl (.inl (.inl ha)) q
  · obtain ⟨v, rfl, a, zs, rfl, ha, hl⟩ := one_of (ts := []) hf
    exact sortL_ok e hl (.inr ha) q
  · cases e
theorem bi_int : CallR X (.type "int") (rPL X.K intT) := by
  refine CallR.imp call_int1 fun xs H Q ⟨av, ts, w, hf, e, q⟩ => ?_
  unfold intT at e
  split at e
  · cases e
    obtain ⟨v, rfl, rfl⟩ := one_of (ts := []) hf
    exact .inl ⟨_, rfl, q _ _ _ (Mk.int _)⟩
  · cases e
    obtain ⟨v, rfl, rfl⟩ := one_of (ts := []) hf
    exact .inr ⟨_, rfl, q _ _ _ (Mk.int _)⟩
  · cases e
theorem rows_sq {K : PySem.W.Frag} {H : Hp} {av : Addr → Prop} : ∀ {xs : List T} {zs : List V} {ls : List (List T)}, T.lsts xs = some ls → FzL K H av xs zs → ∃ rs : List (Addr × List V), zs = rs.map (fun r => V.ref r.1) ∧ (∀ r ∈ rs, Rd H r.1 (.lst r.2)) ∧ rs.length = ls.length ∧ FzL K H av ls.flatten (rs.map (·.2)).flatten
  | [], zs, ls, e, h => by
    cases e
    cases (show zs = [] from h)
    exact ⟨[], rfl, (fun r hr => by cases hr), rfl, rfl⟩
  | t :: xs, zs, ls, e, h => by
    obtain ⟨v, r, rfl, a, b⟩ := h
    cases t with
    | lst ts =>
      obtain ⟨l2, e2, rfl⟩ := Option.map_eq_some_iff.mp (show (T.lsts xs).map (ts :: ·) = some ls from e)
      obtain ⟨rs, rfl, h2, h3, h4⟩ := rows_sq e2 b
      obtain ⟨c, ws, rfl, hc, _, hl⟩ := a
      refine ⟨(c, ws) :: rs, rfl, fun r hr => ?_, by rw [List.length_cons, List.length_cons, h3], ?_⟩
      · rcases List.mem_cons.mp hr with rfl | hr
        · exact hc
        · exact h2 r hr
      · show FzL K H av (ts ++ l2.flatten) (ws ++ (rs.map (·.2)).flatten)
        exact FzL.append hl h4
    | _ => cases e
theorem bi_sum (hc : X.calm = true) : CallR X (.builtin "sum") (rPL X.K sumT) := by
  refine CallR.imp (CallR.or (cr_sum hc) (SumL.cr_sumL hc)) fun xs H Q ⟨av, ts, w, hf, e, q⟩ => ?_
  unfold sumT at e
  split at e
  · obtain ⟨is, e1, e2⟩ := Option.map_eq_some_iff.mp e
    subst e2
    obtain ⟨v, rfl, a, zs, rfl, ha, _, hl⟩ := one_of (ts := []) hf
    have ez := ints_sq e1 hl
    subst ez
    refine .inl ⟨a, is, rfl, .inl ha, ?_⟩
    rw [← sumI_sum]
    exact q _ _ _ (Mk.int _)
  · obtain ⟨ls, e1, e2⟩ := Option.bind_eq_some_iff.mp e
    by_cases c : (decide (1 ≤ ls.length) && decide (ls.flatten.length ≤ 16777216)) = true
    · rw [if_pos c] at e2
      obtain rfl := Option.some.inj e2
      rw [Bool.and_eq_true] at c
      have c1 := of_decide_eq_true c.1
      have c2 := of_decide_eq_true c.2
      obtain ⟨v, v2, rfl, ⟨a, zs, rfl, ha, _, hl⟩, ⟨b, zs0, rfl, hb, _, hl0⟩⟩ := two_of hf
      cases (show zs0 = [] from hl0)
      obtain ⟨rs, rfl, h2, h3, h4⟩ := rows_sq e1 hl
      refine .inr ⟨a, b, rs, rfl, ha, hb, h2, fun z => ?_, ?_, fun p hp => q _ _ _ (Mk.fzl hp h4)⟩
      · subst z
        rw [← h3] at c1
        exact absurd c1 (by decide)
      · rw [← h4.len, sizeLine_eq]
        exact c2
    · rw [if_neg c] at e2
      cases e2
  · cases e
theorem bi_all (hc : X.calm = true) : CallR X (.builtin "all") (rPL X.K allT) := by
  refine CallR.imp (cr_all hc) fun xs H Q ⟨av, ts, w, hf, e, q⟩ => ?_
  unfold allT at e
  split at e
  · obtain ⟨is, e1, e2⟩ := Option.map_eq_some_iff.mp e
    subst e2
    obtain ⟨v, rfl, a, zs, rfl, ha, _, hl⟩ := one_of (ts := []) hf
    have ez := bls_sq e1 hl
    subst ez
    exact ⟨a, is, rfl, .inl ha, q _ _ _ (Mk.bl _)⟩
  · cases e
theorem bi_min (hc : X.calm = true) : CallR X (.builtin "min") (rPL X.K minT) := by
  refine CallR.imp (CallR.or (call_min2 hc) (cr_min hc)) fun xs H Q ⟨av, ts, w, hf, e, q⟩ => ?_
  unfold minT at e
  split at e
  · cases e
    obtain ⟨v, u, rfl, rfl, rfl⟩ := two_of hf
    exact .inl ⟨_, _, rfl, q _ _ _ (Mk.int _)⟩
  · obtain ⟨is, e1, e2⟩ := Option.bind_eq_some_iff.mp e
    obtain ⟨v, rfl, a, zs, rfl, ha, _, hl⟩ := one_of (ts := []) hf
    have ez := ints_sq e1 hl
    subst ez
    cases is with
    | nil => cases e2
    | cons i r =>
      cases e2
      refine .inr ⟨a, i :: r, rfl, .inl ha, Nat.succ_pos _, fun m h1 h2 => ?_⟩
      rw [min_uniq h1 minI_mem.1 h2 minI_mem.2]
      exact q _ _ _ (Mk.int _)
  · cases e
theorem bi_max (hc : X.calm = true) : CallR X (.builtin "max") (rPL X.K maxT) := by
  refine CallR.imp (CallR.or (call_max2 hc) (cr_max hc)) fun xs H Q ⟨av, ts, w, hf, e, q⟩ => ?_
  unfold maxT at e
  split at e
  · cases e
    obtain ⟨v, u, rfl, rfl, rfl⟩ := two_of hf
    exact .inl ⟨_, _, rfl, q _ _ _ (Mk.int _)⟩
  · obtain ⟨is, e1, e2⟩ := Option.bind_eq_some_iff.mp e
    obtain ⟨v, rfl, a, zs, rfl, ha, _, hl⟩ := one_of (ts := []) hf
    have ez := ints_sq e1 hl
    subst ez
    cases is with
    | nil => cases e2
    | cons i r =>
      cases e2
      refine .inr ⟨a, i :: r, rfl, .inl ha, Nat.succ_pos _, fun m h1 h2 => ?_⟩
      rw [max_uniq h1 maxI_mem.1 h2 maxI_mem.2]
      exact q _ _ _ (Mk.int _)
  · cases e
end
theorem tyX_of {K : PySem.W.Frag} {H : Hp} {av : Addr → Prop} {t : T} {v : V} {y : Ty} (h : Fz K H av t v) (e : tyT t = some y) : TyX K H v (.type y.nm) := by
  cases t with
  | non => cases e; cases (show v = _ from h); exact .base .non
  | bl b => cases e; cases (show v = _ from h); exact .base (.bl b)
  | int b => cases e; cases (show v = _ from h); exact .base (.int b)
  | str b => cases e; cases (show v = _ from h); exact .base (.str b)
  | lst ts =>
    cases e
    obtain ⟨a, xs, rfl, ha, _⟩ := h
    rcases ha with ha | ⟨o, ha⟩
    · exact .base (.lst ha)
    · exact .base (.frz ha)
  | tup ts =>
    cases e
    obtain ⟨a, xs, rfl, ha, _⟩ := h
    rcases ha with (ha | ⟨o, ha⟩) | ⟨o, its, n, hk, hc, _⟩
    · exact .base (.tup ha)
    · exact .fTuple ha
    · exact .kTuple hk hc
  | sol ts =>
    cases e
    obtain ⟨a, xs, o, rfl, ha, _⟩ := h
    exact .fTuple ha
  | nd n ts =>
    have e' : (if n.keys.isSome = true then some Ty.dict else none) = some y := e
    by_cases c : n.keys.isSome = true
    · rw [if_pos c] at e'
      cases e'
      obtain ⟨ks, ek⟩ := Option.isSome_iff_exists.mp c
      obtain ⟨a, xs, o, rfl, at_, _, no, _⟩ := h
      obtain ⟨kvs, rfl, _⟩ := no.dct ek
      rcases at_.rd with z | ⟨u, z⟩
      · exact .base (.dK z)
      · exact .fDict z
    · rw [if_neg c] at e'; cases e'
  | _ => cases e
theorem kit_sub (K : PySem.W.Frag) : ∀ y c : Ty, c ≠ .non → PySem.W.kitOne K (.type y.nm) (.type c.nm) = some (y.sub c) := by
  intro y c hc
  refine kit_ty ?_
  cases y <;> cases c <;> first | decide +kernel | exact absurd rfl hc
theorem kit_subs (K : PySem.W.Frag) (y : Ty) : ∀ cs : List Ty, (∀ c ∈ cs, c ≠ .non) → PySem.W.kitAny K (.type y.nm) (cs.map fun c => .type c.nm) = some (cs.any y.sub)
  | [], _ => kitAny_nil
  | c :: cs, h => by
    refine kitAny_cons (kit_sub K y c (h c List.mem_cons_self)) (fun e => ?_) fun e => ?_
    · rw [kit_subs K y cs fun d hd => h d (List.mem_cons_of_mem _ hd), List.any_cons, e]
      rfl
    · rw [List.any_cons, e]
      rfl
section
variable {X : Cx} {g : Cfg} {pos p0 : Pos} {a b c : Expr} {ia ib ic : E}
theorem snd_isi {y : Ty} {px : Pos} {x : Str} (hy : y ≠ .non) (hg : Gl X "isinstance") (hm : X.mg "isinstance" = none) (hgx : Gl X x) (hmx : X.mg x = none) (hbx : bootBuiltins x = some (.type y.nm)) (hdx : (x == ("__debug__" : Str)) = false) (hnx : x ≠ "__name__")
    (ha : PE X a (tE X.K g ia)) (hs : starEach [a, .Name x px] X.env = (false, eval a X.env) :: starEach [.Name x px] X.env) : PE X (.Call (.Name "isinstance" p0) [a, .Name x px] [] pos) (tE X.K g (.isi ia y)) :=
  PE.imp (pe_callB (t := tCons (tE X.K g ia) (tCons (tC (.ty y.nm)) tNil)) call_isi hg hm rfl (pa_cons ha (pa_cons (pe_bltn hgx hmx hbx rfl hnx hdx) pa_nil rfl) hs) (by decide) (by decide) hs rfl) fun σ H Q ⟨Rt, env, A, rl, p⟩ => by
    refine ⟨Rt, env, A, rl, Post.seq p fun x e1 v H1 A1 B1 s1 o1 p1 => ?_⟩
    obtain ⟨w, ew, p2⟩ := Post.of p1
    obtain ⟨k, ek, e2⟩ := Option.map_eq_some_iff.mp ew
    subst e2
    obtain ⟨z, ez, e3⟩ := Option.map_eq_some_iff.mp (show (tyT x.fz).map (fun y' => [y].any y'.sub) = some k from ek)
    refine ⟨v, .ty y.nm, .type z.nm, .type y.nm, z.sub y, rfl, .ty _, tyX_of (s1.fz0 o1) ez, kit_sub _ z y hy, ?_⟩
    have : k = z.sub y := by rw [← e3]; exact Bool.or_false _
    rw [← this]
    exact p2 (.bl k) H1 A1 [] s1.drop0 ⟨rfl, rfl⟩
end
end Ev
namespace Ev
open PySem L2
variable [WW]
section
variable {X : Cx} {g : Cfg} {pos p0 : Pos} {a b c : Expr} {ia ib ic : E}
theorem snd_cst {n : Nat} {t : T} {v : V} {u : Value} {x : Str} (hG : g.G n = some t) (hv : ∀ H av, Fz X.K H av t v) (hg : Gl X x) (hm : X.mg x = some u) (r : RelV v u) (hd : (x == ("__debug__" : Str)) = false) : PE X (.Name x pos) (tE X.K g (.cst n)) :=
  PE.imp (pe_glob hg hm r hd) fun σ H Q ⟨Rt, env, A, rl, p⟩ => by
    have p' : Post X.K g (PO1 X.K) Rt σ H A (R.of ((g.G n).map .val) env) Q := p
    rw [hG] at p'
    exact p' v H A [] rl.sx ⟨rfl, hv _ _⟩
theorem PO.imp {e : Option Expr} {t t' : TO} (h : PO X e t) (i : ∀ σ H Q, t' σ H Q → t σ H Q) : PO X e t' := ⟨fun pins s σ H Q I q => h.run pins s σ H Q I (i σ H Q q)⟩
theorem sno_none : PO X none (tO X.K g .no) := PO.imp po_none fun σ H Q ⟨Rt, env, A, rl, p⟩ => p none H A [] rl.sx ⟨rfl, rfl⟩
theorem sno_some (ha : PE X a (tE X.K g ia)) : PO X (some a) (tO X.K g (.so ia)) :=
  PO.imp (po_some ha) fun σ H Q ⟨Rt, env, A, rl, p⟩ => by
    refine ⟨Rt, env, A, rl, Post.seq p fun x e1 v H1 A1 B1 s1 o1 p1 => ?_⟩
    cases e : x.fz with
    | int i =>
      simp only [e] at p1
      exact ⟨i, fz_int e o1, p1 (some i) H1 A1 [] s1.drop0 ⟨rfl, rfl⟩⟩
    | _ => simp only [e] at p1; exact p1.elim
theorem FzL.cut {K : PySem.W.Frag} {H : Hp} {av : Addr → Prop} {ts : List T} {xs : List V} (h : FzL K H av ts xs) (n m : Nat) : FzL K H av ((ts.drop n).take m) ((xs.drop n).take m) := by
  have drp : ∀ (n : Nat) (ts : List T) (xs : List V), FzL K H av ts xs → FzL K H av (ts.drop n) (xs.drop n) := by
    intro n
    induction n with
    | zero => exact fun _ _ h => h
    | succ n ih =>
      intro ts xs h
      cases ts with
      | nil => cases (show xs = [] from h); exact h
      | cons t ts =>
        obtain ⟨v, r, rfl, _, h2⟩ := h
        exact ih ts r h2
  have tk : ∀ (m : Nat) (ts : List T) (xs : List V), FzL K H av ts xs → FzL K H av (ts.take m) (xs.take m) := by
    intro m
    induction m with
    | zero => exact fun _ _ h => rfl
    | succ m ih =>
      intro ts xs h
      cases ts with
      | nil => cases (show xs = [] from h); exact h
      | cons t ts =>
        obtain ⟨v, r, rfl, h1, h2⟩ := h
        exact ⟨v, r.take m, rfl, h1, ih ts r h2⟩
  exact tk m _ _ (drp n _ _ h)
theorem FzL.rev {K : PySem.W.Frag} {H : Hp} {av : Addr → Prop} : ∀ {ts : List T} {xs : List V}, FzL K H av ts xs → FzL K H av ts.reverse xs.reverse
  | [], xs, h => by cases (show xs = [] from h); exact rfl
  | t :: ts, xs, h => by
    obtain ⟨v, r, rfl, h1, h2⟩ := h
    rw [List.reverse_cons, List.reverse_cons]
    exact FzL.append (FzL.rev h2) ⟨v, [], rfl, h1, rfl⟩
theorem snd_sl {lo hi : Option Expr} {il ih : Eo} {p2 : Pos} (ha : PE X a (tE X.K g ia)) (hl : PO X lo (tO X.K g il)) (hh : PO X hi (tO X.K g ih)) : PE X (.Subscript a (.Slice lo hi none p2) pos) (tE X.K g (.sl ia il ih)) :=
  PE.imp (pe_slice sl_list ha hl hh) fun σ H Q ⟨Rt, env, A, rl, p⟩ => by
    refine ⟨Rt, env, A, rl, Post.seq p fun x e1 v H1 A1 B1 s1 o1 p1 => ?_⟩
    refine ⟨RtB B1 Rt, e1, A1, s1.rl, Post.seq2 s1 p1 fun l e2 l' H2 A2 B2 s2 o2 p2 => ?_⟩
    obtain ⟨rfl, rfl⟩ := o2
    have s12 := s1.next s2
    have w1 := s1.own s2 o1
    rw [List.append_nil] at s12 w1
    refine ⟨RtB B1 Rt, e2, A2, s12.rl, Post.seq2 s12 p2 fun h e3 h' H3 A3 B3 s3 o3 p3 => ?_⟩
    obtain ⟨rfl, rfl⟩ := o3
    have s13 := s12.next s3
    have w3 := s12.own s3 w1
    rw [List.append_nil] at s13 w3
    obtain ⟨w, ew, p4⟩ := Post.of p3
    have fz := s13.fz0 w3
    cases e : x.fz with
    | lst ts =>
      rw [e] at ew fz
      cases ew
      obtain ⟨q, xs, rfl, hq, _, hl⟩ := fz
      refine ⟨q, xs, rfl, .inl hq, fun p hp => ?_⟩
      have fc : FzL X.K H3 (Av (A3 ++ []) Rt) (cutT ts l' h') (cutV xs l' h') := by
        unfold cutT cutV
        rw [hl.len]
        exact hl.cut _ _
      obtain ⟨s4, o4⟩ := s13.made (Mk.fzl hp fc)
      exact p4 _ _ A3 _ s4 o4
    | _ => rw [e] at ew; cases ew
theorem rgV_rngI (a : Int) (n : Nat) : (List.range n).map (fun i => V.int (a + (i : Nat))) = (rngI a n).map V.int := by
  induction n generalizing a with
  | zero => rfl
  | succ n ih =>
    rw [List.range_succ_eq_map, List.map_cons, List.map_map]
    show _ = V.int a :: (rngI (a + 1) n).map V.int
    rw [← ih (a + 1)]
    congr 1
    · simp
    · refine List.map_congr_left fun i _ => ?_
      show V.int (a + ((i + 1 : Nat) : Int)) = V.int (a + 1 + (i : Nat))
      congr 1
      omega
theorem snd_lrng1 {pr pl : Pos} (hc : X.calm = true) (hgl : Gl X "list") (hml : X.mg "list" = none) (hgr : Gl X "range") (hmr : X.mg "range" = none) (ha : PE X a (tE X.K g ia)) (hs : starEach [a] X.env = (false, eval a X.env) :: starEach [] X.env)
    : PE X (.Call (.Name "list" pl) [.Call (.Name "range" pr) [a] [] p0] [] pos) (tE X.K g (.lrng ia .no)) :=
  PE.imp (pe_listRg hc hgl hml (prg_1 hgr hmr ha hs) rfl) fun σ H Q ⟨Rt, env, A, rl, p⟩ => by
    refine ⟨Rt, env, A, rl, Post.seq p fun x e1 v H1 A1 B1 s1 o1 p1 => ?_⟩
    have p1' : Post X.K g (PO1 X.K) Rt σ H A (R.of ((rngT x.fz none).map fun is => .lst (is.map fun i => .val (.int i))) e1) Q := p1
    obtain ⟨w, ew, p4⟩ := Post.of p1'
    obtain ⟨is, ei, e2⟩ := Option.map_eq_some_iff.mp ew
    subst e2
    cases e : x.fz with
    | int n =>
      rw [e] at ei
      have ei' : (if okR n = true then some (rngI 0 n.toNat) else none) = some is := ei
      by_cases c : okR n = true
      · rw [if_pos c] at ei'
        cases ei'
        have c' := okR_of c
        refine ⟨n, fz_int e o1, ⟨by omega, by omega, by omega, by omega, by omega⟩, fun q hq => ?_⟩
        have er : rgV 0 n = (rngI 0 n.toNat).map V.int := by
          unfold rgV
          rw [Int.sub_zero]
          exact rgV_rngI 0 n.toNat
        rw [er]
        obtain ⟨s4, o4⟩ := s1.made (Mk.ints (rngI 0 n.toNat) hq)
        exact p4 _ _ A1 _ s4 o4
      · rw [if_neg c] at ei'; cases ei'
    | _ => rw [e] at ei; cases ei
theorem snd_lrng2 {pr pl : Pos} (hc : X.calm = true) (hgl : Gl X "list") (hml : X.mg "list" = none) (hgr : Gl X "range") (hmr : X.mg "range" = none) (ha : PE X a (tE X.K g ia)) (hb : PE X b (tE X.K g ib)) (hs : starEach [a, b] X.env = (false, eval a X.env) :: starEach [b] X.env) (hs2 : starEach [b] X.env = (false, eval b X.env) :: starEach [] X.env)
    : PE X (.Call (.Name "list" pl) [.Call (.Name "range" pr) [a, b] [] p0] [] pos) (tE X.K g (.lrng ia (.so ib))) :=
  PE.imp (pe_listRg hc hgl hml (prg_2 hgr hmr ha hb hs hs2 (by rw [hs2]; rfl)) rfl) fun σ H Q ⟨Rt, env, A, rl, p⟩ => by
    refine ⟨Rt, env, A, rl, Post.seq p fun x e1 v H1 A1 B1 s1 o1 p1 => ?_⟩
    have p1' : Post X.K g (PO1 X.K) Rt σ H A ((evE g.G g.C ib e1).bind fun w env1 => (match w.fz with | .int i => R.ok (some i) env1 | _ => .no).bind fun (y : Option Int) env2 => R.of ((rngT x.fz y).map fun (is : List Int) => .lst (is.map fun i => .val (.int i))) env2) Q := by
      have : Post X.K g (PO1 X.K) Rt σ H A (((evE g.G g.C ib e1).bind fun w env1 => (match w.fz with | .int i => R.ok (some i) env1 | _ => .no)).bind fun (y : Option Int) env2 => R.of ((rngT x.fz y).map fun (is : List Int) => .lst (is.map fun i => .val (.int i))) env2) Q := p1
      cases er : evE g.G g.C ib e1 with
      | ok w e2 => rw [er] at this; exact this
      | exc c t e2 => rw [er] at this; exact this
      | no => rw [er] at this; exact this
    refine ⟨RtB B1 Rt, e1, A1, s1.rl, Post.seq2 s1 p1' fun y e2 v2 H2 A2 B2 s2 o2 p2 => ?_⟩
    have s3 := s1.next s2
    cases ey : y.fz with
    | int j =>
      simp only [ey] at p2
      have p2' : Post X.K g (PO1 X.K) Rt σ H A (R.of ((rngT x.fz (some j)).map fun is => .lst (is.map fun i => .val (.int i))) e2) Q := p2
      obtain ⟨w, ew, p4⟩ := Post.of p2'
      obtain ⟨is, ei, e4⟩ := Option.map_eq_some_iff.mp ew
      subst e4
      cases e : x.fz with
      | int n =>
        rw [e] at ei
        have ei' : (if (okR n && okR j) = true then some (rngI n (j - n).toNat) else none) = some is := ei
        by_cases c : (okR n && okR j) = true
        · rw [if_pos c] at ei'
          cases ei'
          rw [Bool.and_eq_true] at c
          have c1 := okR_of c.1
          have c2 := okR_of c.2
          refine ⟨n, j, fz_int e o1, fz_int ey o2, ⟨by omega, by omega, by omega, by omega, by omega⟩, fun q hq => ?_⟩
          have er : rgV n j = (rngI n (j - n).toNat).map V.int := rgV_rngI n _
          rw [er]
          obtain ⟨s4, o4⟩ := s3.made (Mk.ints (rngI n (j - n).toNat) hq)
          exact p4 _ _ A2 _ s4 o4
        · rw [if_neg c] at ei'; cases ei'
      | _ => rw [e] at ei; cases ei
    | _ => simp only [ey] at p2; exact p2.elim
end
end Ev
namespace Ev
open PySem L2
variable [WW]
section
variable {X : Cx} {g : Cfg} {pos p0 : Pos} {a b c : Expr} {ia ib ic : E}
theorem IxR.imp {r r' : R2} (h : IxR X r) (i : ∀ x y H Q, r' x y H Q → r x y H Q) : IxR X r' :=
  fun value slice pins s σ H x y v u Q I rx ry q hs => h value slice pins s σ H x y v u Q I rx ry (i x y H Q q) hs
theorem OwnL.get {K : PySem.W.Frag} {H : Hp} {av : Addr → Prop} : ∀ {ws : List W} {xs : List V} {D : List Addr} {n : Nat} {t : T}, OwnL K H av ws xs D → ws[n]? = some (.val t) → ∃ v, xs[n]? = some v ∧ Fz K H av t v
  | [], _, _, _, _, _, e => by simp at e
  | w :: ws, xs, D, 0, t, h, e => by
    obtain ⟨v, r, B1, B2, rfl, rfl, h1, h2⟩ := h
    have e' : w = .val t := by simpa using e
    subst e'
    exact ⟨v, rfl, h1.2⟩
  | w :: ws, xs, D, n + 1, t, h, e => by
    obtain ⟨v, r, B1, B2, rfl, rfl, h1, h2⟩ := h
    obtain ⟨z, e1, e2⟩ := OwnL.get (n := n) h2 (by simpa using e)
    exact ⟨z, by simpa using e1, e2⟩
theorem ix_dict (hu : X.A.units + 64 < cLine) : IxR X fun x y H Q => ∃ a z, x = .ref a ∧ DGet H a y (some z) ∧ Q z H := by
  intro value slice pins s σ H x y v u Q I rx ry h hs
  obtain ⟨a, z, rfl, g, q⟩ := h
  obtain rfl : v = Value.ref a := rx
  exact dict_tail (dict_typeIs I g) (d_getItem (by omega) I g ry fun w' s3 I3 rw' => ⟨z, H, I3, rw', q⟩) hs
theorem OwnL.getN {K : PySem.W.Frag} {H : Hp} {av : Addr → Prop} {k : Key} {t : T} : ∀ {kvs : List (Key × V)} {ks : List Key} {ws : List W} {xs : List V} {D : List Addr}, kvs.map (·.1) = ks → kvs.map (·.2) = xs → OwnL K H av ws xs D → Ev.getN ks ws k = some (.val t) → ∃ v, valV kvs k = some v ∧ Fz K H av t v
  | [], ks, ws, xs, D, e1, e2, h, e => by
    subst e1
    cases ws <;> cases e
  | p :: r, ks, [], xs, D, e1, e2, h, e => by
    subst e1
    cases e
  | p :: r, ks, w :: ws, xs, D, e1, e2, h, e => by
    subst e1 e2
    obtain ⟨v, r', B1, B2, e3, rfl, h1, h2⟩ := h
    obtain ⟨e4, e5⟩ := List.cons.inj (show p.2 :: r.map (·.2) = v :: r' from e3)
    have e' : (if p.1 = k then some w else Ev.getN (r.map (·.1)) ws k) = some (.val t) := e
    by_cases c : p.1 = k
    · rw [if_pos c] at e'
      cases e'
      exact ⟨v, by rw [valV_pos c, e4], h1.2⟩
    · rw [if_neg c] at e'
      obtain ⟨z, g1, g2⟩ := OwnL.getN (kvs := r) rfl e5 h2 e'
      exact ⟨z, by rw [valV_neg c]; exact g1, g2⟩
theorem snd_rdx {i : Nat} {x : Str} (hu : X.A.units + 64 < cLine) (hN : X.N[i]? = some x) (hv : Vis X.env.scope x) (hd : (x == ("__debug__" : Str)) = false) (hcd : (x == ("__classdict__" : Str)) = false) (hb : PE X b (tE X.K g ib)) (hs : PlainIx b) : PE X (.Subscript (.Name x p0) b pos) (tE X.K g (.rdx i ib)) :=
  PE.imp (pe_ix (L2.IxR.or (L2.IxR.or (ix_all hu) ix_list) (ix_dict hu)) (pe_var hN hv hd hcd) hb hs) fun σ H Q ⟨Rt, env, A, rl, p⟩ => by
    have p' : Post X.K g (PO1 X.K) Rt σ H A (match env[i]? with
      | some (some _) => (evE g.G g.C ib env).bind fun k env1 => (match env1[i]? with
        | some (some (.val a)) => R.of ((ixT a k.fz).map .val) env1
        | some (some (.lst ws)) => (match k.fz with
          | .int j => (match atI ws j with
            | some (.val t) => .ok (.val t) env1
            | _ => .no)
          | _ => .no)
        | some (some (.nd (.dct ks) ws)) => (match (keyT k.fz).bind (Ev.getN ks ws) with
          | some (.val t) => .ok (.val t) env1
          | _ => .no)
        | _ => .no)
      | _ => .no) Q := p
    cases e : env[i]? with
    | none => rw [e] at p'; exact p'.elim
    | some o =>
    cases o with
    | none => rw [e] at p'; exact p'.elim
    | some w0 =>
      rw [e] at p'
      obtain ⟨_, _, _, _, _, hw, _⟩ := RE.slot env σ A i rl.re (List.getElem?_eq_some_iff.mp e).1
      obtain ⟨v, ev, _⟩ := hw w0 e
      refine ⟨v, ev, Rt, env, A, rl, Post.seq p' fun k e1 u H1 A1 B1 s1 o1 p1 => ?_⟩
      have p2 : Post X.K g (PO1 X.K) Rt σ H A (match e1[i]? with
        | some (some (.val a)) => R.of ((ixT a k.fz).map .val) e1
        | some (some (.lst ws)) => (match k.fz with
          | .int j => (match atI ws j with
            | some (.val t) => .ok (.val t) e1
            | _ => .no)
          | _ => .no)
        | some (some (.nd (.dct ks) ws)) => (match (keyT k.fz).bind (Ev.getN ks ws) with
          | some (.val t) => .ok (.val t) e1
          | _ => .no)
        | _ => .no) Q := p1
      have s0 := s1.drop0
      cases e2 : e1[i]? with
      | none => rw [e2] at p2; exact p2.elim
      | some o =>
      cases o with
      | none => rw [e2] at p2; exact p2.elim
      | some w1 =>
      obtain ⟨_, D, _, eA, _, hw1, _⟩ := RE.slot e1 σ A1 i s0.re (List.getElem?_eq_some_iff.mp e2).1
      obtain ⟨v1, ev1, ow1⟩ := hw1 w1 e2
      rw [ev] at ev1
      cases ev1
      cases w1 with
      | set t => rw [e2] at p2; exact p2.elim
      | nd n ws =>
        cases n with
        | dcl _ => rw [e2] at p2; exact p2.elim
        | ins _ _ => rw [e2] at p2; exact p2.elim
        | dct ks =>
          rw [e2] at p2
          have p3 : Post X.K g (PO1 X.K) Rt σ H A (match (keyT k.fz).bind (Ev.getN ks ws) with
            | some (.val t) => .ok (.val t) e1
            | _ => .no) Q := p2
          cases eg : (keyT k.fz).bind (Ev.getN ks ws) with
          | none => rw [eg] at p3; exact p3.elim
          | some w2 =>
            cases w2 with
            | val t =>
              rw [eg] at p3
              obtain ⟨j, ej, e3⟩ := Option.bind_eq_some_iff.mp eg
              obtain ⟨q, xs, o, D', rfl, rfl, hq, ⟨⟨kvs, rfl, f1, f2, _⟩, _⟩, hl⟩ := ow1
              obtain ⟨z, g1, g2⟩ := OwnL.getN f1 f2 hl e3
              exact .inr ⟨q, z, rfl, .inl ⟨kvs, j, .inl hq, (key_w ej o1).1, g1.symm⟩, p3 z H1 A1 [] s0 ⟨rfl, g2⟩⟩
            | lst _ => rw [eg] at p3; exact p3.elim
            | nd _ _ => rw [eg] at p3; exact p3.elim
            | set _ => rw [eg] at p3; exact p3.elim
      | val t =>
        rw [e2] at p2
        obtain ⟨w, ew, p3⟩ := Post.of p2
        refine .inl (.inl ⟨_, t, k.fz, w, ow1.2, s1.fz0 o1, ew, fun z H' B mk => ?_⟩)
        obtain ⟨s4, o4⟩ := s0.made mk
        exact p3 z H' A1 B s4 o4
      | lst ws =>
        rw [e2] at p2
        cases ek : k.fz with
        | int j =>
          simp only [ek] at p2
          cases ea : atI ws j with
          | none => simp only [ea] at p2; exact p2.elim
          | some w2 =>
            cases w2 with
            | val t =>
              simp only [ea] at p2
              obtain ⟨q, xs, D', rfl, rfl, hq, hl⟩ := ow1
              unfold atI at ea
              cases en : L2.ixN ws.length j with
              | none => rw [en] at ea; cases ea
              | some n =>
                rw [en] at ea
                obtain ⟨z, ez, fz⟩ := OwnL.get hl ea
                refine .inl (.inr ⟨q, xs, j, z, rfl, fz_int ek o1, SqL.of hq, ?_, p2 z H1 A1 [] s0 ⟨rfl, fz⟩⟩)
                unfold atI
                rw [← OwnL.len _ _ _ hl, en]
                exact ez
            | lst _ => simp only [ea] at p2; exact p2.elim
            | set _ => simp only [ea] at p2; exact p2.elim
            | nd _ _ => simp only [ea] at p2; exact p2.elim
        | _ => simp only [ek] at p2; exact p2.elim
end
theorem addI_mem {acc : List Int} {k j : Int} : j ∈ addI acc k ↔ j ∈ acc ∨ j = k := by
  unfold addI
  by_cases c : acc.contains k = true
  · rw [if_pos c]
    exact ⟨.inl, fun h => h.elim id fun e => e ▸ List.contains_iff_mem.mp c⟩
  · rw [if_neg c, List.mem_append, List.mem_singleton]
theorem SetIs.add {S : Int → Bool} {n : Nat} {is : List Int} (h : SetIs S n is) (k : Int) : SetIs (fun j => S j || decide (j = k)) (if S k = true then n else n + 1) (addI is k) := by
  have hk : S k = true ↔ is.contains k = true := (h.mem k).trans List.contains_iff_mem.symm
  refine ⟨fun j => ?_, ?_, ?_⟩
  · rw [addI_mem, Bool.or_eq_true, decide_eq_true_eq, h.mem j]
  · unfold addI
    by_cases c : is.contains k = true
    · rw [if_pos c]; exact h.nd
    · rw [if_neg c]
      refine List.nodup_append.mpr ⟨h.nd, List.nodup_cons.mpr ⟨fun z => (by cases z), List.nodup_nil⟩, fun a ha b hb e => c ?_⟩
      rw [List.mem_singleton.mp hb] at e
      exact List.contains_iff_mem.mpr (e ▸ ha)
  · unfold addI
    by_cases c : is.contains k = true
    · rw [if_pos c, if_pos (hk.mpr c)]; exact h.len
    · rw [if_neg c, if_neg (fun z => c (hk.mp z)), List.length_append, h.len]; rfl
theorem SetIs.nil : SetIs (fun _ => false) 0 [] := ⟨fun i => by simp, List.nodup_nil, rfl⟩
section
variable (K : PySem.W.Frag) (w : World) (g : Cfg)
def PZ : List Int → V → Hp → (Addr → Prop) → List Addr → Prop := fun is v H _ B => ∃ a S n, v = .ref a ∧ B = [a] ∧ H a = some (SetO w a S n) ∧ SetIs S n is ∧ n < 4096
def tZ (z : Se) : TE := fun σ H Q => ∃ Rt env A, Rl K Rt H σ env A ∧ Post K g (PZ w) Rt σ H A (evSe g.G g.C z env) Q
end
section
variable {X : Cx} {g : Cfg} {pos p0 : Pos} {a b c : Expr} {ia ib ic : E} {z : Se}
theorem snd_lenS {x : Str} (hx : x = "len") (hg : Gl X x) (hm : X.mg x = none) (ha : PE X a (tZ X.K X.w g z)) (hs : starEach [a] X.env = (false, eval a X.env) :: starEach [] X.env) : PE X (.Call (.Name x p0) [a] [] pos) (tE X.K g (.lenS z)) := by
  subst hx
  refine PE.imp (pe_callB (t := tCons (tZ X.K X.w g z) tNil) cr_lenSet hg hm rfl (pa_cons ha pa_nil hs) (by decide) (by decide) hs rfl) fun σ H Q ⟨Rt, env, A, rl, p⟩ => ?_
  refine ⟨Rt, env, A, rl, Post.seq p fun is e1 v H1 A1 B1 s1 o1 p1 => ?_⟩
  obtain ⟨q, S, n, rfl, rfl, hq, si, hn⟩ := o1
  refine ⟨q, S, n, rfl, hq, hn, ?_⟩
  rw [si.len]
  exact p1 (.int is.length) H1 A1 [] s1.drop0 ⟨rfl, rfl⟩
theorem snd_srtS {x : Str} (hx : x = "sorted") (hc : X.calm = true) (hg : Gl X x) (hm : X.mg x = none) (ha : PE X a (tZ X.K X.w g z)) (hs : starEach [a] X.env = (false, eval a X.env) :: starEach [] X.env) : PE X (.Call (.Name x p0) [a] [] pos) (tE X.K g (.srtS z)) := by
  subst hx
  refine PE.imp (pe_callB (t := tCons (tZ X.K X.w g z) tNil) (cr_sortedSet hc) hg hm rfl (pa_cons ha pa_nil hs) (by decide) (by decide) hs rfl) fun σ H Q ⟨Rt, env, A, rl, p⟩ => ?_
  refine ⟨Rt, env, A, rl, Post.seq p fun is e1 v H1 A1 B1 s1 o1 p1 => ?_⟩
  obtain ⟨q, S, n, rfl, rfl, hq, si, hn⟩ := o1
  have p2 : Post X.K g (PO1 X.K) Rt σ H A (if decide (is.length < 64) = true then .ok (.lst ((sortI is).map fun i => .val (.int i))) e1 else .no) Q := p1
  by_cases c : decide (is.length < 64) = true
  · rw [if_pos c] at p2
    refine ⟨q, S, n, rfl, hq, by rw [si.len]; exact of_decide_eq_true c, fun ns p ps pm pl hp => ?_⟩
    have e : ns = sortI is := by
      refine srt_uniq ?_ (ps.imp fun h => Int.le_of_lt h) (sortI_srt is)
      refine List.Perm.trans ?_ (sortI_perm is).symm
      rw [List.perm_iff_count]
      intro j
      have hnd : ns.Nodup := ps.imp fun h => Int.ne_of_lt h
      have h1 := List.nodup_iff_count.mp hnd j
      have h2 := List.nodup_iff_count.mp si.nd j
      have h3 : j ∈ ns ↔ j ∈ is := (pm j).trans (si.mem j)
      by_cases d : j ∈ ns
      · have := List.count_pos_iff.mpr d
        have := List.count_pos_iff.mpr (h3.mp d)
        omega
      · rw [List.count_eq_zero.mpr d, List.count_eq_zero.mpr fun z => d (h3.mpr z)]
    subst e
    obtain ⟨s4, o4⟩ := s1.made (Mk.ints (sortI is) hp)
    exact p2 _ _ A1 _ s4 o4
  · rw [if_neg c] at p2; exact p2.elim
end
end Ev
namespace Ev
open PySem L2
variable [WW]
section
variable {X : Cx} {g : Cfg}
theorem addI_len (acc : List Int) (k : Int) : (addI acc k).length ≤ acc.length + 1 := by
  unfold addI
  by_cases c : acc.contains k = true
  · rw [if_pos c]; omega
  · rw [if_neg c, List.length_append]; exact Nat.le_refl _
theorem sc_ev {own : List Nat} {tgi : Tg} {it : Ev.It} {cs : Tts} {e : E} {σ : St} {H : Hp} {Q : VK} (hlen : ∀ i ∈ tgs tgi, i < X.N.length) (hσ : σ.length = X.N.length) (h : tZ X.K X.w g (.sc own tgi it cs e) σ H Q) :
    tSg (fun p => SetO X.w p (fun _ => false) 0) (rSAdd X.w) (tI X.K g it) (gT X.K tgi) (tTs X.K g.mute cs) (tE X.K g.mute e) own σ H Q := by
  obtain ⟨Rt, env, A, rl, p⟩ := h
  have hel : env.length = X.N.length := by rw [RE.len _ _ _ rl.re, hσ]
  refine ⟨Rt, env, A, rl, Post.seqE p fun ts e1 J H1 A1 B1 er s1 o1 p1 => ?_⟩
  obtain ⟨rfl, P, jt, pP⟩ := o1
  intro D hD
  have p2 : Post X.K g (PZ X.w) Rt σ H A (if (hidOk e1 own && tgIn tgi own) = true then (match scL tgi own (evTs g.G g.C cs) (evE g.G g.C e) ts [] (wipeE e1 own) with
    | .ok is env2 => .ok is (backE e1 env2 own)
    | _ => .no) else .no) Q := p1
  have c0 : (hidOk e1 own && tgIn tgi own) = true := by
    by_cases c : (hidOk e1 own && tgIn tgi own) = true
    · exact c
    · rw [if_neg c] at p2; exact p2.elim
  rw [if_pos c0] at p2
  rw [Bool.and_eq_true] at c0
  obtain ⟨hid, tin⟩ := c0
  have bare := hidOk_of hid
  cases el : scL tgi own (evTs g.G g.C cs) (evE g.G g.C e) ts [] (wipeE e1 own) with
  | exc _ _ _ => rw [el] at p2; exact p2.elim
  | no => rw [el] at p2; exact p2.elim
  | ok isF envF =>
  rw [el] at p2
  have re1 : RE X.K H1 (Av (A1 ++ []) Rt) e1 σ A1 := s1.re
  have olds : ∀ (Hc : Hp) (A' : List Addr), Go A1 H1 A' Hc → ∀ j ∈ own, e1[j]? = some none ∨ ∃ t v, e1[j]? = some (some (.val t)) ∧ σ[j]? = some (some v) ∧ Fz X.K Hc (Av A' Rt) t v := fun Hc A' go j hj => by
    rcases bare j hj with z | ⟨t, z⟩
    · exact .inl z
    · obtain ⟨_, _, _, _, _, hw, _⟩ := RE.slot e1 σ A1 j re1 (List.getElem?_eq_some_iff.mp z).1
      obtain ⟨v, ev, ow⟩ := hw _ z
      refine .inr ⟨t, v, z, ev, Fz.mono (fun b o q n => go.keep b o q fun z => n (.inl (List.mem_append_left _ z))) go.tups (fun b z => ?_) t v ow.2⟩
      rcases z with z | z
      · exact (go.new b z).imp (fun z => .inl (List.mem_append_left _ z)) id
      · exact .inl (.inr z)
  have tgin : ∀ i ∈ tgs tgi, i ∈ own := fun i hi => by
    cases tgi with
    | var k =>
      rcases List.mem_cons.mp hi with rfl | z
      · exact List.contains_iff_mem.mp tin
      · cases z
    | tup is => exact List.contains_iff_mem.mp (List.all_eq_true.mp tin i hi)
    | lst is => exact List.contains_iff_mem.mp (List.all_eq_true.mp tin i hi)
  let St8 : Nat → Hp → Prop := fun i Hc => ∃ envi Ai acc, scL tgi own (evTs g.G g.C cs) (evE g.G g.C e) (ts.drop i) acc envi = .ok isF envF ∧ Sx X.K Rt (L2.wipe σ own) H A Hc envi Ai [D] ∧
      (∃ S n, Hc D = some (SetO X.w D S n) ∧ SetIs S n acc) ∧ acc.length < 4096 ∧ P Hc (Av (Ai ++ [D]) Rt) ∧ Go A1 H1 (Ai ++ [D]) Hc ∧ ∀ j ∈ own, envi[j]? = some none
  refine ⟨fun i m Hc => m = ts.length - i ∧ i ≤ ts.length ∧ St8 i Hc, ⟨ts.length, ?_⟩, ?_⟩
  · have s2 : Sx X.K Rt σ H A (upd H1 D (SetO X.w D (fun _ => false) 0)) e1 A1 [D] := s1.new hD
    refine ⟨by simp, Nat.zero_le _, wipeE e1 own, A1, [], by simpa using el, ⟨s2.go, s2.nd, s2.rt, s2.th, s2.bth, RE.wipe own bare s2.re, s2.tb⟩, ⟨_, _, upd_same, SetIs.nil⟩, (by decide), ?_, ?_, fun j hj => wipeE_none own j hj (bare j hj).lt⟩
    · exact jt.mono _ _ _ _ pP (fun b o q _ => q.up (newkeep hD)) (newtups hD) (Sx.newav hD)
    · exact ((Go.refl (A := A1) (H := H1)).upd hD).sub fun b hb => by
        rcases List.mem_append.mp hb with z | z
        · exact List.mem_cons_of_mem _ z
        · rcases List.mem_cons.mp z with rfl | z
          · exact List.mem_cons_self
          · cases z
  · rintro i m Hc ⟨rfl, hile, envi, Ai, acc, eL, sx, ⟨S, n, hS, si⟩, hacc, pH, go, nones⟩
    by_cases hlt : i < ts.length
    · have et : ts.drop i = ts[i] :: ts.drop (i + 1) := List.drop_eq_getElem_cons hlt
      have gi : ts[i]? = some ts[i] := List.getElem?_eq_getElem hlt
      rw [et] at eL
      have eL0 : (match tgE tgi ts[i] envi with
        | none => R.no
        | some env1 => (evTs g.G g.C cs env1).bind fun b env2 => match b with
          | true => (evE g.G g.C e env2).bind fun w env3 => match w.fz with
            | .int k => if (decide (acc.length < 4095) && hidOk env3 own) = true then scL tgi own (evTs g.G g.C cs) (evE g.G g.C e) (ts.drop (i + 1)) (addI acc k) (wipeE env3 own) else .no
            | _ => .no
          | false => if hidOk env2 own = true then scL tgi own (evTs g.G g.C cs) (evE g.G g.C e) (ts.drop (i + 1)) acc (wipeE env2 own) else .no) = .ok isF envF := eL
      cases etg : tgE tgi ts[i] envi with
      | none => rw [etg] at eL0; cases eL0
      | some env1 =>
      rw [etg] at eL0
      obtain ⟨b, env2, eb, eL1⟩ := bind_ok eL0
      refine .inr ⟨jt.go Hc _ i _ pH gi, St8 (i + 1), fun Hn w => ⟨ts.length - (i + 1), by omega, rfl, hlt, w⟩, fun x Hy y => ?_⟩
      obtain ⟨ext, fx⟩ := jt.yld Hc _ i _ x Hy pH gi y
      have sx1 := sx.ext ext
      have hS1 : Hy D = some (SetO X.w D S n) := ext D _ hS
      have pH1 : P Hy (Av (Ai ++ [D]) Rt) := jt.mono _ _ _ _ pH (fun b o q _ => q.up ext) (fun b xs q => Rd.mono q fun o q => ext b o q) (fun b z => .inl z)
      have go1 : Go A1 H1 (Ai ++ [D]) Hy := go.ext ext go.new
      have elen : envi.length = X.N.length := by rw [RE.len _ _ _ sx.re, wipe_length, hσ]
      have fx1 : Fz X.K Hy (Av Ai (RtB [D] Rt)) ts[i] x := Fz.mono (fun _ _ q _ => q) (fun _ _ q => q) (fun b z => .inl (by
        rcases z with z | z | z
        · exact .inl (List.mem_append_left _ z)
        · exact .inl (List.mem_append_right _ z)
        · exact .inr z)) _ _ fx
      refine tg_ok tgi (fun j hj => by rw [elen]; exact hlen j hj) sx1.rl fx1 etg fun σ2 A2 sub rl2 kσ => ?_
      have l2 : σ2.length = σ.length := by
        rw [← RE.len _ _ _ rl2.re, tgE_len etg, elen, hσ]
      have weq : L2.wipe σ2 own = L2.wipe σ own := by
        refine wipe_eq l2 fun j hj => ?_
        rw [kσ j (fun z => hj (tgin j z)), wipe_out hj]
      refine ⟨weq, RtB [D] Rt, env1, A2, rl2, ?_⟩
      have sxT : Sx X.K Rt σ2 H A Hy env1 A2 [D] := sx1.retg rl2 sub
      have suba : ∀ b, Av (A2 ++ [D]) Rt b → Av (Ai ++ [D]) Rt b := fun b z => by
        rcases z with z | z
        · rcases List.mem_append.mp z with z | z
          · exact .inl (List.mem_append_left _ (sub b z))
          · exact .inl (List.mem_append_right _ z)
        · exact .inr z
      have pT : P Hy (Av (A2 ++ [D]) Rt) := jt.mono _ _ _ _ pH1 (fun _ _ q _ => q) (fun _ _ q => q) (fun b z => .inl (suba b z))
      have goT : Go A1 H1 (A2 ++ [D]) Hy := go1.sub fun b hb => by
        rcases List.mem_append.mp hb with z | z
        · exact List.mem_append_left _ (sub b z)
        · exact List.mem_append_right _ z
      show Post X.K g.mute PBl (RtB [D] Rt) σ2 Hy A2 (evTs g.G g.C cs env1) _
      rw [eb]
      intro b' H3 A3 B3 s3 hb3
      obtain ⟨e3, e4⟩ := hb3
      subst e3 e4
      have hS3 : H3 D = some (SetO X.w D S n) := (s3.go.keep D _ ⟨hS1, fun ps z => by cases z⟩ (sxT.out List.mem_cons_self)).1
      have s4 : Sx X.K Rt σ2 H A H3 env2 A3 [D] := sxT.next s3
      have p3 : P H3 (Av (A3 ++ [D]) Rt) := sxT.nextP jt s3 pT
      have go3 : Go A1 H1 (A3 ++ [D]) H3 := goT.trans (show Go A2 Hy A3 H3 from s3.go.sub fun b hb => List.mem_append_left _ hb)
      cases b' with
      | false =>
        have eL2 : (if hidOk env2 own = true then scL tgi own (evTs g.G g.C cs) (evE g.G g.C e) (ts.drop (i + 1)) acc (wipeE env2 own) else .no) = .ok isF envF := eL1
        by_cases c : hidOk env2 own = true
        · rw [if_pos c] at eL2
          have b2 := hidOk_of c
          have rw2 := RE.wipe own b2 s4.re
          rw [weq] at rw2
          exact ⟨wipeE env2 own, A3, acc, eL2, ⟨s4.go, s4.nd, s4.rt, s4.th, s4.bth, rw2, s4.tb⟩, ⟨S, n, hS3, si⟩, hacc, p3, go3, fun j hj => wipeE_none own j hj (b2 j hj).lt⟩
        · rw [if_neg c] at eL2; cases eL2
      | true =>
        obtain ⟨w, env3, ew, eL2⟩ := bind_ok (show ((evE g.G g.C e env2).bind fun w env3 => match w.fz with
            | .int k => if (decide (acc.length < 4095) && hidOk env3 own) = true then scL tgi own (evTs g.G g.C cs) (evE g.G g.C e) (ts.drop (i + 1)) (addI acc k) (wipeE env3 own) else .no
            | _ => .no) = .ok isF envF from eL1)
        refine ⟨RtB [D] Rt, env2, A3, s4.rl, ?_⟩
        show Post X.K g.mute (PO1 X.K) (RtB [D] Rt) σ2 H3 A3 (evE g.G g.C e env2) _
        rw [ew]
        intro yv H4 A4 B4 s5 o5
        cases ek : w.fz with
        | int k =>
          simp only [ek] at eL2
          have eB := fzo_int ek o5
          subst eB
          have ev := fz_int ek o5
          subst ev
          have hS4 : H4 D = some (SetO X.w D S n) := (s5.go.keep D _ ⟨hS3, fun ps z => by cases z⟩ (s4.out List.mem_cons_self)).1
          have s6 : Sx X.K Rt σ2 H A H4 env3 A4 [D] := s4.next s5
          have p4 : P H4 (Av (A4 ++ [D]) Rt) := s4.nextP jt s5 p3
          have go4 : Go A1 H1 (A4 ++ [D]) H4 := (go3.trans s5.go).sub fun b hb => by
            rcases List.mem_append.mp hb with z | z
            · exact List.mem_append_left _ (List.mem_append_left _ z)
            · exact List.mem_append_right _ z
          by_cases c : (decide (acc.length < 4095) && hidOk env3 own) = true
          · rw [if_pos c] at eL2
            rw [Bool.and_eq_true] at c
            have c1 := of_decide_eq_true c.1
            have aD : Av (A4 ++ [D]) Rt D := .inl (List.mem_append_right _ List.mem_cons_self)
            have lD : ∀ xs', ¬ Rd H4 D (.tup xs') := fun xs' z => by rcases z with z | ⟨o, z⟩ <;> (rw [hS4] at z; cases z)
            have s7 := s6.wr (o := SetO X.w D (fun j => S j || decide (j = k)) (if S k = true then n else n + 1)) List.mem_cons_self lD (fun q z => by rw [hS4] at z; exact not_code (fun h o vs e1 e2 z => by obtain ⟨o2, a, b, c, h1, h2, h3, _⟩ := z; rw [h1] at e1; cases e1; rw [h3] at e2; cases e2) (Option.some.inj z)) (fun ps z => by rw [hS4] at z; first | cases z | (unfold SetO at z; cases z) | (unfold TxO at z; cases z))
            have b2 := hidOk_of c.2
            have rw2 := RE.wipe own b2 s7.re
            rw [weq] at rw2
            refine ⟨D, k, S, n, rfl, rfl, hS4, (by rw [si.len]; show acc.length + 1 < 4096; omega), wipeE env3 own, A4, addI acc k, eL2, ⟨s7.go, s7.nd, s7.rt, s7.th, s7.bth, rw2, s7.tb⟩, ⟨_, _, upd_same, si.add k⟩, ?_, ?_, ?_, fun j hj => wipeE_none own j hj (b2 j hj).lt⟩
            · have := addI_len acc k
              omega
            · refine jt.mono _ _ _ _ p4 (fun b o q n => ?_) (fun b xs' q => ?_) (fun b z => .inl z)
              · exact KN.put (fun z => n (by rw [z]; exact aD)) q
              · have ne : b ≠ D := fun z => by subst z; exact lD xs' q
                exact Rd.mono q fun u q => by first | exact KN.put ne q | (rw [upd_ne ne]; exact q)
            · exact go4.put (.inr hD) lD (fun q z => by rw [hS4] at z; exact not_code (fun h o vs e1 e2 z => by obtain ⟨o2, a, b, c, h1, h2, h3, _⟩ := z; rw [h1] at e1; cases e1; rw [h3] at e2; cases e2) (Option.some.inj z))
          · rw [if_neg c] at eL2; cases eL2
        | _ => simp only [ek] at eL2; cases eL2
    · have ei : i = ts.length := by omega
      subst ei
      rw [List.drop_length] at eL
      cases (show R.ok acc envi = R.ok isF envF from eL)
      refine .inl ⟨jt.stop Hc _ _ pH (Nat.le_refl _), ?_⟩
      have rb := (RE.back own (fun j hj => .inl (nones j hj)) (olds Hc (Ai ++ [D]) go) sx.re).1
      rw [backS_wipe] at rb
      exact p2 (.ref D) Hc Ai [D] ⟨sx.go, sx.nd, sx.rt, sx.th, sx.bth, rb, sx.tb⟩ ⟨D, S, n, rfl, rfl, hS, si, by rw [si.len]; exact hacc⟩
theorem snz_sc {elt tg iter : Expr} {ifs : List Expr} {scope : Scope} {own' : List (Str × Nat)} {own : List Nat} {pos : Pos} {tgi : Tg} {it : Ev.It} {cs : Tts} {e : E} (eo : own'.map (·.2) = own) (hc : X.calm = true) (hN : X.N.Nodup)
    (hi : PI X tg iter (tI X.K g it)) (ok : BlkOk X.N X.env.scope scope own') (hlen : ∀ i ∈ tgs tgi, i < X.N.length)
    (hg : ∀ (s : Shared) (H : Hp) (C : Addr) (cl : List (Str × Addr)) (fp : List Addr), PG (X.blk s H scope (compEnvC scope cl C X.env) fp) tg (gT X.K tgi))
    (ht : ∀ (s : Shared) (H : Hp) (C : Addr) (cl : List (Str × Addr)) (fp : List Addr), PTs (X.blk s H scope (compEnvC scope cl C X.env) fp) ifs (tTs X.K g.mute cs))
    (he : ∀ (s : Shared) (H : Hp) (C : Addr) (cl : List (Str × Addr)) (fp : List Addr), PE (X.blk s H scope (compEnvC scope cl C X.env) fp) elt (tE X.K g.mute e)) (hs : ∀ x, foldedSetIterable iter X.env x = pure x) :
    PE X (.SetComp elt [⟨tg, iter, ifs, 0⟩] scope pos) (tZ X.K X.w g (.sc own tgi it cs e)) := by
  subst eo
  refine ⟨fun pins s σ H Q I h => (pe_sg (fun H h => setO_new (setR_fresh X.w)) (fun Y e1 e2 => ?_) hc hN hi ok hg ht he hs).run pins s σ H Q I (sc_ev hlen I.len h)⟩
  rw [← e2]
  exact mt_sadd
end
theorem stepI_map (a c : Int) (n : Nat) : (List.range n).map (fun (i : Nat) => V.int (a + (i : Nat) * c)) = (stepI a c n).map V.int := by
  induction n generalizing a with
  | zero => rfl
  | succ n ih =>
    rw [List.range_succ_eq_map, List.map_cons, List.map_map]
    show _ = V.int a :: (stepI (a + c) c n).map V.int
    rw [← ih (a + c)]
    congr 1
    · simp
    · refine List.map_congr_left fun i _ => ?_
      show V.int (a + ((i + 1 : Nat) : Int) * c) = V.int (a + c + (i : Nat) * c)
      congr 1
      rw [Int.natCast_add, Int.add_mul]
      omega
section
variable {X : Cx} {g : Cfg} {pos p0 : Pos} {a b c : Expr} {ia ib ic : E}
theorem vals_st {a c : Int} {n : Nat} {acc : Array Value} (h : ItemsOf (fun i v => ∃ t, v = .int (a + i * c) t) acc n) : Vals ((stepI a c n).map V.int) acc.toList := by
  have e : acc.toList.length = n := by rw [Array.length_toList]; exact h.1
  rw [← stepI_map, ← e]
  refine vals_of_get acc.toList _ fun j u hj => ?_
  obtain ⟨t, rfl⟩ := h.2 j u (by rw [← hj, Array.getElem?_toList])
  exact ⟨t, rfl⟩
theorem stepI_len (a c : Int) : ∀ n, (stepI a c n).length = n := by
  intro n
  induction n generalizing a with
  | zero => rfl
  | succ n ih => show (stepI (a + c) c n).length + 1 = _; rw [ih]
theorem pe_listRg3 {pr pl : Pos} {ta : TA} (hc : X.calm = true) (hgl : Gl X "list") (hml : X.mg "list" = none) (hgr : Gl X "range") (hmr : X.mg "range" = none) (ha : PA X [a, b, c] ta)
    (hs : starEach [a, b, c] X.env = (false, eval a X.env) :: starEach [b, c] X.env) (hpl : (backTo p0 (starEach [b, c] X.env)).any (·.1) = false) :
    PE X (.Call (.Name "list" pl) [.Call (.Name "range" pr) [a, b, c] [] p0] [] pos) (fun σ H Q => ta σ H fun vs H1 => ∃ (i j k : Int) (n : Nat), vs = [.int i, .int j, .int k] ∧ RgC i j k n ∧ n ≤ 16777216 ∧ ∀ q, H1 q = none → Q (.ref q) (upd H1 q (.lst ((stepI i k n).map V.int)))) := by
  refine ⟨fun pins s σ H Q I h => ?_⟩
  refine PyProof.Rows.Call_ (ld_blt I hgl hml PyProof.Rows.boot_list (PyProof.Rows.callWith_type1 (PyProof.Rows.args_cons ?_ rfl) rfl))
  refine PyProof.Rows.Call_ (ld_blt I hgr hmr PyProof.Rows.boot_range (PyProof.Rows.callWith_type1 (thn (ha.run p0 pins s σ H _ I h) fun us s1 ⟨vs, H1, I1, r1, q1⟩ => ?_) hs hpl))
  obtain ⟨i, j, k, n, e, ⟨c0, c1, c2, c3⟩, hz, q⟩ := q1
  subst e
  cases r1 with
  | cons r rr =>
  cases rr with
  | cons r' rr =>
  cases rr with
  | cons r'' rr =>
  cases rr
  obtain ⟨t, rfl⟩ := r
  obtain ⟨t', rfl⟩ := r'
  obtain ⟨t'', rfl⟩ := r''
  refine call_range_3 c0 ?_ (.inl (PyProof.noPylong_small c1))
  refine PyProof.Rows.args_nil ?_
  have I2 : Inv X pins σ H1 { s1 with heap := s1.heap.push { cls := .type "range", data := .fields #[.int i t, .int j t', .int k t''] } } := I1.kept (t' := s1.toks) fun b o e => Heap.get?_push_of_some _ e
  refine call_list_range (n := n) (I2.ok.hd hc) (IsRange.new ..) c2 c3 (by omega) fun h' tk acc c' hk e' hi => ?_
  refine ⟨.ref _, upd H1 _ (.lst ((stepI i k n).map V.int)), I2.laid hk (Nat.le_refl _) (show ObjOk X.prog X.w _ _ _ (.lst ((stepI i k n).map V.int)) from ⟨?_, acc.toList, c', vals_st hi, ?_⟩), rfl, q _ (I2.hok.fresh (Nat.le_refl _))⟩
  · rw [List.length_map, stepI_len, sizeLine_eq]; exact hz
  · rw [Array.toArray_toList]; exact e'
theorem rsz {a b c : Int} (hc : 0 < c) : Builtin.Range.rangeSize a b c = (((b - a + c - 1) / c).toNat : Nat) := by
  unfold Builtin.Range.rangeSize
  rw [if_pos (show c > 0 from hc)]
  by_cases h : a < b
  · rw [if_pos h]
    have e : b - a + c - 1 = (b - a - 1) + 1 * c := by omega
    have p : 0 ≤ (b - a - 1) / c := Int.ediv_nonneg (by omega) (by omega)
    rw [e, Int.add_mul_ediv_right _ _ (by omega), Int.toNat_of_nonneg (by omega)]
  · rw [if_neg h]
    have p : (b - a + c - 1) / c ≤ 0 := by
      have : (b - a + c - 1) / c < 1 := Int.ediv_lt_of_lt_mul hc (by omega)
      omega
    rw [Int.toNat_of_nonpos p]
    rfl
theorem snd_lrng3 {pr pl : Pos} (hc : X.calm = true) (hgl : Gl X "list") (hml : X.mg "list" = none) (hgr : Gl X "range") (hmr : X.mg "range" = none) (ha : PE X a (tE X.K g ia)) (hb : PE X b (tE X.K g ib)) (hcc : PE X c (tE X.K g ic))
    (hs : starEach [a, b, c] X.env = (false, eval a X.env) :: starEach [b, c] X.env) (hs2 : starEach [b, c] X.env = (false, eval b X.env) :: starEach [c] X.env) (hs3 : starEach [c] X.env = (false, eval c X.env) :: starEach [] X.env) (hpl : (backTo p0 (starEach [b, c] X.env)).any (·.1) = false) :
    PE X (.Call (.Name "list" pl) [.Call (.Name "range" pr) [a, b, c] [] p0] [] pos) (tE X.K g (.lrng3 ia ib ic)) :=
  PE.imp (pe_listRg3 hc hgl hml hgr hmr (pa_cons ha (pa_cons hb (pa_cons hcc pa_nil hs3) hs2) hs) hs hpl) fun σ H Q ⟨Rt, env, A, rl, p⟩ => by
    refine ⟨Rt, env, A, rl, Post.seq p fun x e1 v H1 A1 B1 s1 o1 p1 => ?_⟩
    refine ⟨RtB B1 Rt, e1, A1, s1.rl, Post.seq2 s1 p1 fun y e2 v2 H2 A2 B2 s2 o2 p2 => ?_⟩
    have s12 := s1.next s2
    refine ⟨RtB (B1 ++ B2) Rt, e2, A2, s12.rl, Post.seq2 s12 p2 fun z e3 v3 H3 A3 B3 s3 o3 p3 => ?_⟩
    have s13 := s12.next s3
    obtain ⟨w, ew, p4⟩ := Post.of p3
    obtain ⟨is, ei, e4⟩ := Option.map_eq_some_iff.mp ew
    subst e4
    cases ex : x.fz with
    | int i =>
      cases ey : y.fz with
      | int j =>
        cases ez : z.fz with
        | int k =>
          rw [ex, ey, ez] at ei
          have ei' : (if (okR i && okR j && decide (0 < k) && decide (k ≤ 16777216)) = true then some (stepI i k ((j - i + k - 1) / k).toNat) else none) = some is := ei
          by_cases cc : (okR i && okR j && decide (0 < k) && decide (k ≤ 16777216)) = true
          · rw [if_pos cc] at ei'
            cases ei'
            simp only [Bool.and_eq_true, decide_eq_true_eq] at cc
            obtain ⟨⟨⟨c1, c2⟩, c3⟩, c4⟩ := cc
            have d1 := okR_of c1
            have d2 := okR_of c2
            have le : (j - i + k - 1) / k ≤ 16777216 := by
              have : (j - i + k - 1) / k < 16777217 := Int.ediv_lt_of_lt_mul c3 (by
                have : j - i ≤ 16777216 := by omega
                have h2 : 16777217 * k = 16777216 * k + k := by omega
                have h3 : 16777216 ≤ 16777216 * k := by omega
                omega)
              omega
            refine ⟨i, j, k, ((j - i + k - 1) / k).toNat, ?_, ⟨by omega, by omega, ?_, rsz c3⟩, by omega, fun q hq => ?_⟩
            · rw [fz_int ex o1, fz_int ey o2, fz_int ez o3]
            · unfold Builtin.Range.small
              rw [rsz c3]
              simp only [Builtin.Range.rangeFitsLong, Bool.and_eq_true, Bool.or_eq_true, decide_eq_true_eq, beq_iff_eq, show k > 0 from c3, if_true]
              generalize en0 : ((j - i + k - 1) / k).toNat = n0
              have hn0 : n0 ≤ 16777216 := by omega
              clear ei p4 ew en0 p3 p2 p1 p
              omega
            · obtain ⟨s4, o4⟩ := s13.made (Mk.ints (stepI i k ((j - i + k - 1) / k).toNat) hq)
              exact p4 _ _ A3 _ s4 o4
          · rw [if_neg cc] at ei'; cases ei'
        | _ => rw [ex, ey, ez] at ei; cases ei
      | _ => rw [ex, ey] at ei; cases ei
    | _ => rw [ex] at ei; cases ei
end
end Ev
namespace Ev
open PySem L2
variable [WW]
def visB (sc : Scope) (x : Str) : Bool := match sc.names.lookup x with
  | some .local => true
  | some .cell => true
  | some .free => true
  | _ => false
theorem vis_of {sc : Scope} {x : Str} (h : visB sc x = true) : Vis sc x := by
  unfold visB at h
  unfold Vis
  split at h <;> first | (rename_i e; rw [e]; simp) | cases h
def locB (sc : Scope) (x : Str) : Bool := match sc.names.lookup x with
  | some .local => true
  | some .cell => true
  | _ => false
theorem loc_of {sc : Scope} {x : Str} (h : locB sc x = true) : L2.Loc sc x := by
  unfold locB at h
  unfold L2.Loc
  split at h <;> first | (rename_i e; rw [e]; simp) | cases h
def lclB (sc : Scope) (x : Str) : Bool := match sc.names.lookup x with
  | some .local => true
  | _ => false
theorem lcl_of {sc : Scope} {x : Str} (h : lclB sc x = true) : sc.names.lookup x = some .local := by
  unfold lclB at h
  split at h <;> first | (rename_i e; rw [e]) | cases h
def glB (env : PySem.Env) (x : Str) : Bool := match env.kindOf x with
  | some .globalImplicit => true
  | _ => false
theorem gl_of {X : Cx} {x : Str} (h : glB X.env x = true) : Gl X x := by
  unfold glB at h
  unfold Gl
  split at h <;> first | (rename_i e; rw [e]) | cases h
def isLoc : NameKind → Bool
  | .local => true
  | .cell => true
  | _ => false
def isFree : NameKind → Bool
  | .free => true
  | _ => false
def celB (sc : Scope) (x : Str) : Bool := match sc.names.lookup x with
  | some .cell => true
  | some .free => true
  | _ => false
def sameK : NameKind → Option NameKind → Bool
  | .local, some .local => true
  | .cell, some .cell => true
  | .free, some .free => true
  | .globalImplicit, some .globalImplicit => true
  | .globalExplicit, some .globalExplicit => true
  | _, _ => false
def funB : ScopeKind → Bool
  | .function => true
  | _ => false
def blkB (N : List Str) (sc scope : Scope) (own : List (Str × Nat)) : Bool :=
  funB scope.kind && scope.names.all (fun y => sameK y.2 (scope.names.lookup y.1)) && own.all (fun p => N[p.2]? == some p.1) && scope.names.all (fun y => !isFree y.2 || celB sc y.1) &&
    scope.names.all fun y => !isLoc y.2 || (own.map (·.1)).contains y.1 || !N.contains y.1
theorem sameK_of {k : NameKind} {o : Option NameKind} (h : sameK k o = true) : o = some k := by
  cases o with
  | none => cases k <;> cases h
  | some j => cases k <;> cases j <;> first | rfl | cases h
theorem blk_of {N : List Str} {sc scope : Scope} {own : List (Str × Nat)} (h : blkB N sc scope own = true) : BlkOk N sc scope own := by
  unfold blkB at h
  simp only [Bool.and_eq_true] at h
  obtain ⟨⟨⟨⟨h1, h2⟩, h3⟩, h4⟩, h5⟩ := h
  refine ⟨?_, fun y hy => sameK_of (List.all_eq_true.mp h2 y hy), fun p hp => ?_, fun y hy e => ?_, fun y hy e => ?_⟩
  · unfold funB at h1
    split at h1 <;> first | assumption | cases h1
  · have := List.all_eq_true.mp h3 p hp
    exact eq_of_beq this
  · have := List.all_eq_true.mp h4 y hy
    rw [e] at this
    have this : celB sc y.1 = true := by simpa [isFree] using this
    unfold celB at this
    split at this <;> first | (rename_i e; rw [e]; simp) | cases this
  · have := List.all_eq_true.mp h5 y hy
    have hl : isLoc y.2 = true := by rcases e with e | e <;> rw [e] <;> rfl
    rw [hl] at this
    simp only [Bool.not_true, Bool.false_or, Bool.or_eq_true] at this
    rcases this with z | z
    · exact .inl (List.contains_iff_mem.mp z)
    · refine .inr fun w => ?_
      rw [List.contains_iff_mem.mpr w] at z
      cases z
def allLt (is : List Nat) (n : Nat) : Bool := is.all fun i => Nat.blt i n
theorem allLt_of {is : List Nat} {n : Nat} (h : allLt is n = true) : ∀ i ∈ is, i < n := fun i hi => Nat.blt_eq.mp (List.all_eq_true.mp h i hi)
def noneIn (ks is : List Nat) : Bool := ks.all fun j => !is.contains j
theorem noneIn_of {ks is : List Nat} (h : noneIn ks is = true) : ∀ j ∈ ks, is.contains j = false := fun j hj => by
  have := List.all_eq_true.mp h j hj
  simpa using this
def okName (x : Str) : Bool := !(x == ("__debug__" : Str)) && !(x == ("__classdict__" : Str)) && !(x == ("__name__" : Str))
theorem okName_of {x : Str} (h : okName x = true) : (x == ("__debug__" : Str)) = false ∧ (x == ("__classdict__" : Str)) = false ∧ x ≠ "__name__" := by
  unfold okName at h
  simp only [Bool.and_eq_true, Bool.not_eq_true'] at h
  exact ⟨h.1.1, h.1.2, fun e => by
    have h2 := h.2
    rw [e] at h2
    rw [beq_self_eq_true] at h2
    cases h2⟩
end Ev
namespace Ev
open PySem L2
variable [WW]
def xr0 : XR := fun _ _ _ _ _ _ => False
section
variable {P : Program} {w : World} {K : PySem.W.Frag} {mg : Str → Option Value} {base : Heap} {f : Addr} {fd : FuncData} {xr : XR}
theorem end_of {C : Calls} {i : Nat} {H : Hp} {a : Addr} {ns : List Int} {o : List (Option W)} (tb : TBs K H) (hS : SqL K H a (ns.map V.int)) (e : C i [.val (.scr ns)] = .ok (.val (.bl true)) o) : spC K xr C i [] 1 [.ref a] H (fun v _ => v = .bl true) fun _ _ _ => False := by
  refine ⟨rfl, fun _ => False, [.val (.scr ns)], [], ⟨List.nodup_nil, fun b hb => (by cases hb), fun b z => z.elim, ⟨.ref a, [], [], [], rfl, rfl, ⟨rfl, a, rfl, ?_⟩, rfl, rfl⟩, tb⟩, ?_⟩
  · rcases hS with h | h
    · exact .inl ⟨h, fun z => z.elim (fun z => by cases z) id⟩
    · exact .inr (.inr h)
  · rw [e]
    exact fun v H' A' B sx ow => ow.2
theorem fnOk_cx {CX CX' : CXT} {k : Nat} {ps : List Str} {sp : Sp} (F : FnOk P w K mg base CX k f fd ps sp) (h : ∀ o H s E e s', CX o H s E e s' → CX' o H s E e s') : FnOk P w K mg base CX' k f fd ps sp :=
  ⟨F.len, fun A outer s H args us vs Q E hr he hb hv hs => codeAny_mono (F.run A outer s H args us vs Q E hr he hb hv hs) fun r s' q => by
    cases r with
    | error e => exact h _ _ _ _ _ _ q
    | ok fl =>
      cases fl with
      | ret u => exact q
      | next => exact q
      | brk => exact q
      | cont => exact q⟩
def CXw (P : Program) : CXT := fun o H s E e s' => ∃ w, L2.CX P w o H s E e s'
theorem cxw_end (P : Program) (H : Hp) (s : Shared) (e : Value) (s' : Shared) (h : CXw P [] H s (fun _ _ _ => False) e s') : False := by
  obtain ⟨w, _, _, _, _, _, _, _, _, _, _, _, _, z⟩ := h
  exact z
end
end Ev
namespace Ev
open PySem L2
variable [WW]
section
variable {X : Cx} {g : Cfg} {ks : List Nat} {pos pos' p0 p1 p2 p3 : Pos} {a b c : Expr} {ia ib ic : E} {i : Nat} {x f nm : Str} {is : Es}
theorem RE.now {K : PySem.W.Frag} {Rt : Addr → Prop} {H : Hp} {σ : St} {env : Env} {A : List Addr} {w : W} (re : RE K H (Av A Rt) env σ A) (e : env[i]? = some (some w)) : ∃ v, σ[i]? = some (some v) ∧ Fz K H (fun _ => False) w.fz v := by
  obtain ⟨_, B, _, eA, _, hw, _⟩ := RE.slot env σ A i re (List.getElem?_eq_some_iff.mp e).1
  obtain ⟨v, ev, ow⟩ := hw w e
  exact ⟨v, ev, Own.fz (fun _ z => z.elim) w v B (fun _ _ z => z) ow⟩
theorem snd_cmpv {o : CmpOp} (hu : X.A.units + 64 < cLine) (hN : X.N[i]? = some x) (hv : Vis X.env.scope x) (hd : (x == ("__debug__" : Str)) = false) (hcd : (x == ("__classdict__" : Str)) = false) (hb : PE X b (tE X.K g ib)) (hm : behindInMarks o b = false) :
    PE X (.Compare (.Name x p0) [o] [b] pos) (tE X.K g (.cmpv o i ib)) :=
  PE.imp (pe_cmpR (cmp_all hu o) (pe_var hN hv hd hcd) hb hm) fun σ H Q ⟨Rt, env, A, rl, p⟩ => by
    have p' : Post X.K g (PO1 X.K) Rt σ H A (match env[i]? with
      | some (some _) => (evE g.G g.C ib env).bind fun y env1 => (match env1[i]? with
        | some (some w) => R.of ((cmpT o w.fz y.fz).map fun k => .val (.bl k)) env1
        | _ => .no)
      | _ => .no) Q := p
    cases e : env[i]? with
    | none => rw [e] at p'; exact p'.elim
    | some q =>
    cases q with
    | none => rw [e] at p'; exact p'.elim
    | some w0 =>
      rw [e] at p'
      obtain ⟨v, ev, _⟩ := RE.now rl.re e
      refine ⟨v, ev, Rt, env, A, rl, Post.seq p' fun y e1 u H1 A1 B1 s1 o1 p1 => ?_⟩
      have s0 := s1.drop0
      cases e2 : e1[i]? with
      | none => rw [e2] at p1; exact p1.elim
      | some q =>
      cases q with
      | none => rw [e2] at p1; exact p1.elim
      | some w =>
        rw [e2] at p1
        obtain ⟨v', ev', fz⟩ := RE.now (Rt := Rt) (A := A1) s0.rl0.re e2
        rw [ev] at ev'
        cases ev'
        obtain ⟨w', ew, p2⟩ := Post.of p1
        have fy : Fz X.K H1 (fun _ => False) y.fz u := Own.fz (fun _ z => z.elim) y u B1 (fun _ _ z => z) o1
        refine ⟨fun _ => False, w.fz, y.fz, w', fz, fy, ew, fun z H' B mk => ?_⟩
        obtain ⟨k, ek, e3⟩ := Option.map_eq_some_iff.mp ew
        subst e3
        obtain ⟨eB, ez⟩ := mk.own
        subst eB
        have ez' : z = .bl k := ez
        subst ez'
        obtain ⟨s4, o4⟩ := s0.made (w := .val (.bl k)) (v := .bl k) (H2 := H') (B := []) ⟨mk.ext, List.nodup_nil, fun b hb => (by cases hb), ⟨rfl, rfl⟩⟩
        exact p2 (.bl k) H' A1 [] s4 o4
end
end Ev
namespace Ev
open PySem L2
variable [WW]
def tKy (k : Key) : TE := fun _ H Q => Q (kV k) H
def trsOf (K : PySem.W.Frag) (g : Cfg) : List Key → Es → List (TE × TE)
  | k :: ks, .cons e es => (tKy k, tE K g e) :: trsOf K g ks es
  | _, _ => []
def lenEs : Es → Nat
  | .nil => 0
  | .cons _ es => lenEs es + 1
theorem pairs_ev {K : PySem.W.Frag} {g : Cfg} : ∀ (ks : List Key) (is : Es) (σ : St) (H : Hp) (Rt : Addr → Prop) (env : Env) (A : List Addr) (Q : List V → Hp → Prop) (Q0 : List (V × V) → Hp → Prop), ks.length = lenEs is → Rl K Rt H σ env A → Post K g (POL K) Rt σ H A (evEs g.G g.C is env) Q →
    (∀ vs H2, vs.length = ks.length → Q vs H2 → Q0 ((ks.zip vs).map fun kv => (kV kv.1, kv.2)) H2) → tPairs (trsOf K g ks is) σ H Q0
  | [], .nil, σ, H, Rt, env, A, Q, Q0, _, rl, p, k => k [] H rfl (p [] H A [] rl.sx ⟨rfl, rfl⟩)
  | [], .cons _ _, σ, H, Rt, env, A, Q, Q0, hl, _, _, _ => by cases hl
  | _ :: _, .nil, σ, H, Rt, env, A, Q, Q0, hl, _, _, _ => by cases hl
  | k :: ks, .cons e es, σ, H, Rt, env, A, Q, Q0, hl, rl, p, kk => by
    refine ⟨Rt, env, A, rl, Post.seq p fun w e1 v1 H1 A1 B1 s1 o1 p1 => ?_⟩
    exact pairs_ev ks es σ H1 (RtB B1 Rt) e1 A1 (fun vs H2 => Q (v1 :: vs) H2) _ (Nat.succ.inj hl) s1.rl (Post.seq2 s1 p1 fun ws e2 vs H2 A2 B2 s2 o2 p2 =>
      p2 (v1 :: vs) H2 A2 (B1 ++ B2) (s1.next s2) ⟨v1, vs, B1, B2, rfl, rfl, s1.own s2 o1, Sx.ownL2 o2⟩) fun vs H2 e3 q => kk (v1 :: vs) H2 (by rw [List.length_cons, List.length_cons, e3]) q
theorem merge_nodup : ∀ (more kvs : List (Key × V)), ((kvs ++ more).map (·.1)).Nodup → mergeK kvs more = kvs ++ more
  | [], kvs, _ => (List.append_nil _).symm
  | p :: more, kvs, nd => by
    have np : p.1 ∉ kvs.map (·.1) := fun z => by
      rw [List.map_append] at nd
      exact (List.nodup_append.mp nd).2.2 p.1 z p.1 List.mem_cons_self rfl
    have e : putK kvs p.1 p.2 = kvs ++ [p] := by
      unfold putK
      rw [if_neg]
      intro z
      obtain ⟨q, hq, e⟩ := List.any_eq_true.mp z
      exact np (List.mem_map.mpr ⟨q, hq, of_decide_eq_true e⟩)
    show mergeK (putK kvs p.1 p.2) more = _
    rw [e, merge_nodup more (kvs ++ [p]) (by rw [List.append_assoc]; exact nd), List.append_assoc]
    rfl
section
variable {X : Cx} {g : Cfg} {ks : List Nat} {pos pos' p0 p1 p2 p3 apos cpos : Pos} {a b c : Expr} {ia ib ic : E} {i : Nat} {x f nm : Str} {is : Es}
theorem pd_nil : PPs X pos [] [] (trsOf X.K g [] .nil) := pps_nil
theorem pd_int {k : Int} {j : Nat} {v : Expr} {keys : List (Option Expr)} {vals : List Expr} {js : List Key} (hv : PE X v (tE X.K g ia)) (hr : PPs X pos keys vals (trsOf X.K g js is)) : PPs X pos (some (.Constant (.int k) j p0) :: keys) (v :: vals) (trsOf X.K g (.inl k :: js) (.cons ia is)) :=
  pps_cons pe_int hv hr
theorem snd_dct {keys : List (Option Expr)} {vals : List Expr} {js : List Key} (h : PPs X pos keys vals (trsOf X.K g js is)) (hall : keys.all (·.isSome) = true) (hl : keys.length = vals.length) (h0 : keys ≠ []) (h15 : keys.length ≤ 15)
    (hj : js.length = lenEs is) (nd : js.Nodup) : PE X (.Dict keys vals pos) (tE X.K g (.dct js is)) :=
  PE.imp (pe_disp h hall hl h0 h15) fun σ H Q ⟨Rt, env, A, rl, p⟩ q hq => by
    have s0 : Sx X.K Rt σ H A (upd H q (.dK [])) env A [q] := rl.sx.new hq
    refine pairs_ev js is σ _ (RtB [q] Rt) env A _ _ hj s0.rl (Post.seq2 s0 p fun ws e2 vs H2 A2 B2 s2 o2 p2 => (⟨ws, e2, A2, B2, s2, o2, p2⟩ : ∃ ws e2 A2 B2, Sx X.K (RtB [q] Rt) σ (upd H q (.dK [])) A H2 e2 A2 B2 ∧ POL X.K ws vs H2 (Av (A2 ++ B2) (RtB [q] Rt)) B2 ∧
      Post X.K g (PO1 X.K) Rt σ H A (if (decide (js.length = ws.length) && decide (js.length ≤ 15)) = true then .ok (.nd (.dct js) ws) e2 else .no) Q)) fun vs H2 le ⟨ws, e2, A2, B2, s2, o2, p2⟩ => ?_
    have hH2 : H2 q = some (.dK []) := (s2.go.keep q _ ⟨upd_same, fun ps z => by cases z⟩ fun z => by
      obtain ⟨o, e, _⟩ := RE.there _ _ _ rl.re q z
      rw [hq] at e; cases e).1
    by_cases cc : (decide (js.length = ws.length) && decide (js.length ≤ 15)) = true
    · rw [if_pos cc] at p2
      simp only [Bool.and_eq_true, decide_eq_true_eq] at cc
      have kz1 : (js.zip vs).map (·.1) = js := List.map_fst_zip (by omega)
      have kz2 : (js.zip vs).map (·.2) = vs := List.map_snd_zip (by omega)
      have em : mergeK [] (js.zip vs) = js.zip vs := merge_nodup (js.zip vs) [] (by rw [List.nil_append, kz1]; exact nd)
      refine ⟨hH2, js.zip vs, rfl, by rw [List.length_zip]; omega, ?_⟩
      rw [em]
      have s3 := s0.next s2
      have ow : OwnL X.K H2 (Av (A2 ++ ([q] ++ B2)) Rt) ws vs B2 := Sx.ownL2 o2
      have nt : ∀ xs, ¬ Rd H2 q (.tup xs) := fun xs z => by rcases z with z | ⟨o, z⟩ <;> (rw [hH2] at z; cases z)
      have s4 := s3.wr (o := .dK (js.zip vs)) (D := q) (List.mem_append_left _ List.mem_cons_self) nt (fun q z => by rw [hH2] at z; unfold LamX.CodeO at z; cases z) (fun ps z => by rw [hH2] at z; cases z)
      have avq : Av (A2 ++ ([q] ++ B2)) Rt q := .inl (List.mem_append_right _ (List.mem_append_left _ List.mem_cons_self))
      have nB : q ∉ B2 := fun z => by
        have n1 := (List.nodup_append.mp s3.nd).2.1
        exact (List.nodup_cons.mp n1).1 z
      refine p2 (.ref q) _ A2 (q :: B2) s4 ⟨q, vs, _, B2, rfl, rfl, upd_same, ⟨⟨js.zip vs, rfl, kz1, kz2, nd⟩, rfl⟩, OwnL.mono ws vs B2 (fun b o e z => ?_) (fun b xs e => ?_) (fun b z => .inl z) ow⟩
      · have ne : b ≠ q := fun y => by
          subst y
          rcases z with z | z
          · exact nB z
          · exact z avq
        first | exact KN.put ne e | (rw [upd_ne ne]; exact e)
      · have ne : b ≠ q := fun y => by subst y; exact nt xs e
        exact Rd.mono e fun u e => by first | exact KN.put ne e | (rw [upd_ne ne]; exact e)
    · rw [if_neg cc] at p2; exact p2.elim
theorem upd_keep {H : Hp} {b : Addr} {o : HO} {av : Addr → Prop} {S : List Addr} (nb : b ∉ S) (ab : av b) : ∀ c u, KN H c u → (c ∈ S ∨ ¬ av c) → KN (upd H b o) c u := fun c u e z => by
  have ne : c ≠ b := fun y => by
    subst y
    rcases z with z | z
    · exact nb z
    · exact z ab
  first | exact KN.put ne e | (rw [upd_ne ne]; exact e)
theorem upd_tups {H : Hp} {b : Addr} {ys : List V} {o : HO} (hb : H b = some (.lst ys)) : ∀ c xs, Rd H c (.tup xs) → Rd (upd H b o) c (.tup xs) := fun c xs e => by
  have ne : c ≠ b := fun y => by
    subst y
    rcases e with e | ⟨u, e⟩ <;> (rw [hb] at e; cases e)
  exact Rd.mono e fun u e => by first | exact KN.put ne e | (rw [upd_ne ne]; exact e)
end
end Ev
namespace Ev
open PySem L2
variable [WW]
section
variable {K : PySem.W.Frag} {g : Cfg} {Rt : Addr → Prop} {H H1 H2 : Hp} {σ : St} {env e1 e2 : Env} {A A1 A2 B B1 B2 : List Addr} {w : W} {ws : List W} {v : V} {vs : List V} {ts : List T} {t : T} {Q : VK} {f n : Nat}
def asOf : List T → As
  | [] => .nil
  | _ :: r => .cons .non (asOf r)
theorem asOf_io : ∀ (ts : List T) (k : Nat), ioPos k (asOf ts) = []
  | [], _ => rfl
  | _ :: r, k => asOf_io r (k + 1)
theorem asOf_sl : ∀ ts : List T, slots (asOf ts) = []
  | [] => rfl
  | _ :: r => asOf_sl r
theorem asOf_at {av : Addr → Prop} : ∀ (ts : List T) (vs : List V), FzL K H av ts vs → VsAt σ (asOf ts) vs
  | [], vs, h => h
  | _ :: r, vs, h => by
    obtain ⟨v, q, e, _, h⟩ := h
    exact ⟨v, q, e, asOf_at r q h⟩
theorem call_fz (s1 : Sx K Rt σ H A H1 e1 A1 []) (o1 : FzL K H1 (Av (A1 ++ []) Rt) ts vs) (hn : vs.length = n)
    (p : Post K g (PO1 K) Rt σ H A (callR [] (g.C f (ts.map .val)) e1) Q) : spC K g.xr g.C f [] n vs H1 Q (WE g.W σ) := by
  have z := call_ev (as := asOf ts) (g := g) (f := f) (ds := []) (dvs := []) (ws := (ts.map .val, [])) (vs := vs) (n := n) (io := []) (Q := Q) (asOf_io ts 0) (fun _ _ => rfl) (by rw [List.append_nil]; exact hn) s1 ⟨FzL.own ts vs o1, (asOf_sl ts).symm, asOf_at ts vs o1⟩ (by
    show Post K g (PO1 K) Rt σ H A (match g.C f (ts.map .val ++ []) with | .ok w outs => _ | .exc c t outs => _ | .no => _) Q
    rw [List.append_nil]
    exact p)
  rw [List.append_nil] at z
  exact z
theorem Sx.fz1 (s1 : Sx K Rt σ H A H1 e1 A1 B1) (o1 : Own K H1 (Av (A1 ++ B1) Rt) w v B1) (s2 : Sx K (RtB B1 Rt) σ H1 A1 H2 e2 A2 B2) : Sx K Rt σ H A H2 e2 A2 B2 ∧ Fz K H2 (Av (A2 ++ B2) Rt) w.fz v ∧
    ∀ ws vs, OwnL K H2 (Av (A2 ++ B2) (RtB B1 Rt)) ws vs B2 → OwnL K H2 (Av (A2 ++ B2) Rt) ws vs B2 := by
  have s3 := s1.next s2
  have nd := List.nodup_append.mp s3.nd
  have nb := List.nodup_append.mp nd.2.1
  refine ⟨s3.drop nb.2.1 fun b hb => List.mem_append_right _ hb, Own.fz (Sx.avs fun b hb => List.mem_append_right _ hb) w v B1 (fun b hb z => ?_) (s1.own s2 o1), fun ws vs ow => OwnL.mono ws vs B2 (fun _ _ q _ => q) (fun _ _ q => q) (fun b z => .inl (z.imp id fun z => .inr z)) ow⟩
  rcases z with z | z
  · rcases List.mem_append.mp z with z | z
    · exact nd.2.2 b z b (List.mem_append_left _ hb) rfl
    · exact nb.2.2 b hb b z rfl
  · exact s3.rt b (List.mem_append_right _ (List.mem_append_left _ hb)) z
theorem Sx.fz2 {w2 : W} {v2 : V} (s1 : Sx K Rt σ H A H1 e1 A1 B1) (o1 : Own K H1 (Av (A1 ++ B1) Rt) w v B1) (s2 : Sx K (RtB B1 Rt) σ H1 A1 H2 e2 A2 B2) (o2 : Own K H2 (Av (A2 ++ B2) (RtB B1 Rt)) w2 v2 B2) :
    Sx K Rt σ H A H2 e2 A2 [] ∧ Fz K H2 (Av (A2 ++ []) Rt) w.fz v ∧ Fz K H2 (Av (A2 ++ []) Rt) w2.fz v2 := by
  obtain ⟨s3, f1, ow⟩ := s1.fz1 o1 s2
  have o2' : Own K H2 (Av (A2 ++ B2) Rt) w2 v2 B2 := Own.mono w2 v2 B2 (fun _ _ q _ => q) (fun _ _ q => q) (fun b z => .inl (z.imp id fun z => .inr z)) o2
  exact ⟨s3.drop0, Fz.mono (fun _ _ q _ => q) (fun _ _ q => q) (fun b z => .inl (Sx.avs (fun b hb => by cases hb) b z)) _ _ f1, s3.fz0 o2'⟩
theorem Sx.fzL2 {ws2 : List W} {vs2 : List V} (s1 : Sx K Rt σ H A H1 e1 A1 B1) (o1 : OwnL K H1 (Av (A1 ++ B1) Rt) ws vs B1) (s2 : Sx K (RtB B1 Rt) σ H1 A1 H2 e2 A2 B2) (o2 : OwnL K H2 (Av (A2 ++ B2) (RtB B1 Rt)) ws2 vs2 B2) :
    Sx K Rt σ H A H2 e2 A2 [] ∧ FzL K H2 (Av (A2 ++ []) Rt) (fzs ws) vs ∧ FzL K H2 (Av (A2 ++ []) Rt) (fzs ws2) vs2 := by
  have s3 := s1.next s2
  have nd := List.nodup_append.mp s3.nd
  refine ⟨s3.drop0, OwnL.fz (Sx.avs fun b hb => by cases hb) ws vs B1 (fun b hb z => ?_) (s1.ownL s2 o1), OwnL.fz (Sx.avs fun b hb => by cases hb) ws2 vs2 B2 (fun b hb z => ?_) (Sx.ownL2 (Rt := Rt) (B1 := B1) o2)⟩
  · rcases z with z | z
    · rw [List.append_nil] at z
      exact nd.2.2 b z b (List.mem_append_left _ hb) rfl
    · exact s3.rt b (List.mem_append_right _ (List.mem_append_left _ hb)) z
  · rcases z with z | z
    · rw [List.append_nil] at z
      exact nd.2.2 b z b (List.mem_append_right _ hb) rfl
    · exact s3.rt b (List.mem_append_right _ (List.mem_append_right _ hb)) z
end
structure FnA (P : Program) (w : World) (K : PySem.W.Frag) (mg : Str → Option Value) (base : Heap) (xr : XR) (C : Calls) (d : Nat) (f : Nat) (fa : Addr) (io : List Nat) (n : Nat) : Prop where
  ex : ∃ fd ps, FnOk P w K mg base (L2.CX P w) d fa fd ps (spC K xr C f io n) ∧ PySem.W.keepIn K (.ref fa) = true ∧ Binds K fd ps []
section
variable {X : Cx} {CX : CXT} {k : Nat} {f C : Addr} {fd : FuncData} {ps : List Str} {sp : Sp} {E : St → XK} {x m : Str} {p pos apos : Pos} {e o : Expr} {es : List Expr} {ta : TE} {t : TA}
theorem pe_callS0 (F : FnOk X.prog X.w X.K X.mg X.base CX k f fd ps sp) (hr : Room k X.A) (hg : Gl X x) (hm : X.mg x = some (.ref f)) (hk : PySem.W.keepIn X.K (.ref f) = true) (hb : Binds X.K fd ps []) (hx : ∀ σ, PassesAt CX X σ (E σ))
    (hdb : (x == ("__debug__" : Str)) = false) : PE X (.Call (.Name x p) [] [] pos) (fun σ H Q => sp [] H Q (E σ)) := by
  refine ⟨fun pins s σ H Q I h => ?_⟩
  refine wpAny_Call_Name_kw (ld_glob I hg hm ?_ hdb)
  exact PySem.W.callWith_K0 I.kIn hk (run_fnS (us := []) (vs := []) F hr hb (hx σ) I .nil h)
end
structure Stat (K : PySem.W.Frag) (C : Addr) (m : Str) (p f : Addr) : Prop where
  rd : ∃ mc, ClX.CRead K C mc ∧ PySem.W.findCls K (.ref C) mc m = some (.get (.builtin "staticmethod.__get__") (.ref p) .none (.ref C))
  rc : ∃ rest, PySem.W.recIn K p "staticmethod" = some (.ref f :: rest)
section
variable {X : Cx} {g : Cfg} {pos p0 p1 apos : Pos} {a b e o : Expr} {ia ib : E} {x m c : Str} {es : List Expr} {as : As} {k f n : Nat} {fa C q : Addr} {io : List Nat}
theorem snd_call0 {dvs : List V} (F : FnC X.prog X.w X.K X.mg X.base g.xr g.C k f x io 0 []) (hr : Room k X.A) (tk : Takes X g.W) (hg : Gl X x) (hio : io = []) (hdb : (x == ("__debug__" : Str)) = false) : PE X (.Call (.Name x p0) [] [] pos) (tE X.K g (.call f .nil [])) := by
  obtain ⟨fa, fd, ps, dd, F, hm, hk, hb, hd⟩ := F.ex
  cases hd
  subst hio
  refine PE.imp (pe_callS0 F hr hg hm hk hb (fun σ => passAt tk σ) hdb) fun σ H Q ⟨Rt, env, A, rl, p⟩ => ?_
  exact call_fz (ts := []) rl.sx rfl rfl p
end
end Ev
namespace Ev
open PySem L2
variable [WW]
section
variable {K : PySem.W.Frag} {g : Cfg} {Rt : Addr → Prop} {H H1 H2 : Hp} {σ : St} {env e1 e2 : Env} {A A1 A2 B B1 B2 : List Addr} {w : W} {ws : List W} {v : V} {vs : List V} {ts : List T} {t : T} {Q : VK} {f n : Nat} {c : Str} {x dx : Addr}
def pickA {α : Type} (us mv ws : List α) : Ar → Option α
  | .p i => us[i]?
  | .k i => ws[i]?
  | .d j _ => mv[j]?
def gA (ar : List Ar) {α : Type} : List α → List α → List α → List α
  | u :: us, mv, ws => u :: ar.filterMap (pickA us mv ws)
  | [], _, _ => []
theorem vals_at : ∀ {vs : List V} {us : List Value} (i : Nat), Vals vs us → (vs[i]? = none ∧ us[i]? = none) ∨ ∃ v u, vs[i]? = some v ∧ us[i]? = some u ∧ RelV v u
  | _, _, i, .nil => .inl ⟨by simp, by simp⟩
  | _, _, 0, .cons r t => .inr ⟨_, _, rfl, rfl, r⟩
  | _, _, i + 1, .cons r t => by simpa using vals_at i t
theorem pick_rel {vs mz zs : List V} {us mv ws : List Value} (h1 : Vals vs us) (h2 : Vals mz mv) (h3 : Vals zs ws) (a : Ar) : (pickA vs mz zs a = none ∧ pickA us mv ws a = none) ∨ ∃ v u, pickA vs mz zs a = some v ∧ pickA us mv ws a = some u ∧ RelV v u := by
  cases a with
  | p i => exact vals_at i h1
  | k i => exact vals_at i h3
  | d j t => exact vals_at j h2
theorem picks_rel {vs mz zs : List V} {us mv ws : List Value} (h1 : Vals vs us) (h2 : Vals mz mv) (h3 : Vals zs ws) : ∀ ar : List Ar, Vals (ar.filterMap (pickA vs mz zs)) (ar.filterMap (pickA us mv ws))
  | [] => .nil
  | a :: ar => by
    rcases pick_rel h1 h2 h3 a with ⟨e1, e2⟩ | ⟨v, u, e1, e2, r⟩
    · rw [List.filterMap_cons, List.filterMap_cons, e1, e2]
      exact picks_rel h1 h2 h3 ar
    · rw [List.filterMap_cons, List.filterMap_cons, e1, e2]
      exact .cons r (picks_rel h1 h2 h3 ar)
def litV : T → V
  | .int i => .int i
  | .str x => .str x
  | .bl b => .bl b
  | _ => .non
def litB : T → Bool
  | .int _ => true
  | .str _ => true
  | .bl _ => true
  | .non => true
  | _ => false
theorem lit_fz {av : Addr → Prop} (h : litB t = true) : Fz K H av t (litV t) := by
  cases t with
  | int i => rfl
  | str x => rfl
  | bl b => rfl
  | non => rfl
  | _ => cases h
def ArOk (ds : List T) : List Ar → Prop
  | [] => True
  | .d j t :: r => (ds[j]? = some t ∧ litB t = true) ∧ ArOk ds r
  | _ :: r => ArOk ds r
theorem FzL.at_ {av : Addr → Prop} : ∀ {ts : List T} {vs : List V} (i : Nat) {t : T}, FzL K H av ts vs → ts[i]? = some t → ∃ v, vs[i]? = some v ∧ Fz K H av t v
  | [], vs, i, t, h, e => by simp at e
  | u :: ts, vs, 0, t, h, e => by
    obtain ⟨v, r, rfl, h1, h2⟩ := h
    cases e
    exact ⟨v, rfl, h1⟩
  | u :: ts, vs, i + 1, t, h, e => by
    obtain ⟨v, r, rfl, h1, h2⟩ := h
    exact FzL.at_ i h2 (by simpa using e)
theorem arr_fz {av : Addr → Prop} {us : List T} {zs : List V} {ds : List T} (h1 : FzL K H av ts vs) (h2 : FzL K H av us zs) : ∀ (ar : List Ar) (rs : List T), ArOk ds ar → arr ts us ar = some rs → FzL K H av rs (ar.filterMap (pickA vs (ds.map litV) zs))
  | [], rs, _, e => by
    cases e
    exact rfl
  | .p i :: ar, rs, ok, e => by
    obtain ⟨t, et, e2⟩ := Option.bind_eq_some_iff.mp (show (ts[i]?).bind (fun t => (arr ts us ar).map (t :: ·)) = some rs from e)
    obtain ⟨q, eq, e3⟩ := Option.map_eq_some_iff.mp e2
    subst e3
    obtain ⟨v, ev, fv⟩ := h1.at_ i et
    rw [List.filterMap_cons, show pickA vs (ds.map litV) zs (.p i) = some v from ev]
    exact ⟨v, _, rfl, fv, arr_fz h1 h2 ar q ok eq⟩
  | .k i :: ar, rs, ok, e => by
    obtain ⟨t, et, e2⟩ := Option.bind_eq_some_iff.mp (show (us[i]?).bind (fun t => (arr ts us ar).map (t :: ·)) = some rs from e)
    obtain ⟨q, eq, e3⟩ := Option.map_eq_some_iff.mp e2
    subst e3
    obtain ⟨v, ev, fv⟩ := h2.at_ i et
    rw [List.filterMap_cons, show pickA vs (ds.map litV) zs (.k i) = some v from ev]
    exact ⟨v, _, rfl, fv, arr_fz h1 h2 ar q ok eq⟩
  | .d j t :: ar, rs, ok, e => by
    obtain ⟨q, eq, e3⟩ := Option.map_eq_some_iff.mp (show (arr ts us ar).map (t :: ·) = some rs from e)
    subst e3
    obtain ⟨⟨e1, e2⟩, ok⟩ := ok
    rw [List.filterMap_cons, show pickA vs (ds.map litV) zs (.d j t) = some (litV t) by
      show (ds.map litV)[j]? = _
      rw [List.getElem?_map, e1]
      rfl]
    exact ⟨_, _, rfl, lit_fz e2, arr_fz h1 h2 ar q ok eq⟩
theorem arr_len {us : List T} : ∀ (ar : List Ar) (rs : List T), arr ts us ar = some rs → rs.length = ar.length
  | [], rs, e => by cases e; rfl
  | .p i :: ar, rs, e => by
    obtain ⟨t, et, e2⟩ := Option.bind_eq_some_iff.mp (show (ts[i]?).bind (fun t => (arr ts us ar).map (t :: ·)) = some rs from e)
    obtain ⟨q, eq, e3⟩ := Option.map_eq_some_iff.mp e2
    subst e3
    rw [List.length_cons, List.length_cons, arr_len ar q eq]
  | .k i :: ar, rs, e => by
    obtain ⟨t, et, e2⟩ := Option.bind_eq_some_iff.mp (show (us[i]?).bind (fun t => (arr ts us ar).map (t :: ·)) = some rs from e)
    obtain ⟨q, eq, e3⟩ := Option.map_eq_some_iff.mp e2
    subst e3
    rw [List.length_cons, List.length_cons, arr_len ar q eq]
  | .d j t :: ar, rs, e => by
    obtain ⟨q, eq, e3⟩ := Option.map_eq_some_iff.mp (show (arr ts us ar).map (t :: ·) = some rs from e)
    subst e3
    rw [List.length_cons, List.length_cons, arr_len ar q eq]
end
structure MkC (P : Program) (w : World) (K : PySem.W.Frag) (mg : Str → Option Value) (base : Heap) (xr : XR) (C : Calls) (d : Nat) (f : Nat) (c : Str) (np : Nat) (ks : List Str) (ar : List Ar) (ds : List T) : Prop where
  ex : ∃ fa fd ps, ∃ mv : List Value, L2.Mk K (He.ga K c) fa ∧ FnOk P w K mg base (L2.CX P w) d fa fd ps (spC K xr C f [0] (ar.length + 1)) ∧ KBn K fd ps (np + 1) ks (fun us ws => gA ar us mv ws) (fun vs zs => gA ar vs (ds.map litV) zs)
  ok : ArOk ds ar
section
variable {X : Cx} {g : Cfg} {pos p0 p1 apos : Pos} {a b e o : Expr} {ia ib : E} {x m c : Str} {es : List Expr} {is js : Es} {k f n : Nat} {kws : List Keyword} {ar : List Ar} {ds : List T} {ksn : List Str}
theorem snk_nil : PK X [] (tEs X.K g .nil) := ⟨fun _ _ _ σ H Q I ⟨Rt, env, A, rl, p⟩ => wpAny_evalAll_nil ⟨[], H, I, .nil, p [] H A [] rl.sx ⟨rfl, rfl⟩⟩⟩
theorem PK.imp {t t' : TA} (h : PK X kws t) (i : ∀ σ H Q, t' σ H Q → t σ H Q) : PK X kws t' := ⟨fun pos pins s σ H Q I q => h.run pos pins s σ H Q I (i σ H Q q)⟩
theorem snk_cons {nm : Option Str} {kpos : Pos} (he : PE X e (tE X.K g ia)) (hs : PK X kws (tEs X.K g is)) : PK X (⟨nm, e, kpos⟩ :: kws) (tEs X.K g (.cons ia is)) :=
  PK.imp (pk_cons he hs) fun σ H Q ⟨Rt, env, A, rl, p⟩ => ⟨Rt, env, A, rl, Post.seq p fun w e1 v H1 A1 B1 s1 o1 p1 => ⟨RtB B1 Rt, e1, A1, s1.rl, Post.seq2 s1 p1 fun ws e2 vs H2 A2 B2 s2 o2 p2 =>
    p2 (v :: vs) H2 A2 (B1 ++ B2) (s1.next s2) ⟨v, vs, B1, B2, rfl, rfl, s1.own s2 o1, Sx.ownL2 o2⟩⟩⟩
def esLen : Es → Nat
  | .nil => 0
  | .cons _ r => esLen r + 1
theorem evEs_len {G : Nat → Option T} {C : Calls} : ∀ (es : Es) (env env1 : Env) (ws : List W), evEs G C es env = .ok ws env1 → ws.length = esLen es
  | .nil, env, env1, ws, h => by
    cases (show R.ok ([] : List W) env = .ok ws env1 from h)
    rfl
  | .cons e es, env, env1, ws, h => by
    have h' : ((evE G C e env).bind fun w env1 => (evEs G C es env1).bind fun ws env2 => R.ok (w :: ws) env2) = .ok ws env1 := h
    cases e1 : evE G C e env with
    | no => rw [e1] at h'; cases h'
    | exc c t e2 => rw [e1] at h'; cases h'
    | ok w env2 =>
      rw [e1] at h'
      have h2 : ((evEs G C es env2).bind fun ws env2 => R.ok (w :: ws) env2) = .ok ws env1 := h'
      cases e2 : evEs G C es env2 with
      | no => rw [e2] at h2; cases h2
      | exc c t e3 => rw [e2] at h2; cases h2
      | ok us env3 =>
        rw [e2] at h2
        cases (show R.ok (w :: us) env3 = .ok ws env1 from h2)
        have := evEs_len es env2 _ us e2
        rw [List.length_cons, this]
        rfl
section
variable {K : PySem.W.Frag} {α β γ δ : Type} {Pa : α → β → Hp → (Addr → Prop) → List Addr → Prop} {Pc : γ → δ → Hp → (Addr → Prop) → List Addr → Prop} {Rt : Addr → Prop} {σ : St} {H H1 : Hp} {A A1 B1 : List Addr} {env1 : Env} {r : R α} {fn : α → Env → R γ} {Q : δ → Hp → Prop} {Q1 : β → Hp → Prop}
theorem Post.seq2E (s1 : Sx K Rt σ H A H1 env1 A1 B1) (h : Post K g Pc Rt σ H A (r.bind fn) Q)
    (k : ∀ a e2, r = .ok a e2 → ∀ b H2 A2 B2, Sx K (RtB B1 Rt) σ H1 A1 H2 e2 A2 B2 → Pa a b H2 (Av (A2 ++ B2) (RtB B1 Rt)) B2 → Post K g Pc Rt σ H A (fn a e2) Q → Q1 b H2) : Post K g Pa (RtB B1 Rt) σ H1 A1 r Q1 := by
  cases r with
  | ok a e1 => exact fun b H' A' B' sx p => k a e1 rfl b H' A' B' sx p h
  | exc c t e1 =>
    refine fun cls d H' A' sx p => h cls d H' A' (s1.next sx).drop0 (g.xm c t H' _ _ cls d (fun b z => ?_) p)
    rcases z with z | z
    · exact .inl z
    · exact .inr (.inr z)
  | no => exact h
end
structure IsC (K : PySem.W.Frag) (c : Str) : Prop where
  cl : Cls K (He.ga K c)
  ha : PySem.W.findIn K (.ref (He.ga K c)) "__class__" = some (some (.builtin "object.__class__"))
  hn : PySem.W.specialIn K (.builtin "object.__class__") "__get__" = some (some (.builtin "getset_descriptor.__get__"))
  htk : PySem.W.takesIn K (.builtin "object.__class__") = some true
  hm : PySem.W.mroIn K (He.ga K c) (.type "object") = some true
structure IsO (K : PySem.W.Frag) (c : Str) (cs : List Str) : Prop where
  ty : ∀ y : Ty, PySem.W.kitOne K (.type y.nm) (.ref (He.ga K c)) = some false
  own : ∀ c' ∈ cs, IsC K c' ∧ PySem.W.kitOne K (.ref (He.ga K c')) (.ref (He.ga K c)) = some (decide (c' = c))
end
end Ev
namespace Ev
open PySem L2
variable [WW]
def gF (ar : List Ar) {α : Type} (us mv ws : List α) : List α := ar.filterMap (pickA us mv ws)
structure CwC (P : Program) (w : World) (K : PySem.W.Frag) (mg : Str → Option Value) (base : Heap) (xr : XR) (C : Calls) (d : Nat) (f : Nat) (x : Str) (np : Nat) (ks : List Str) (ar : List Ar) (ds : List T) : Prop where
  ex : ∃ fd ps, ∃ mv : List Value, FnOk P w K mg base (L2.CX P w) d (He.ga K x) fd ps (spC K xr C f [] ar.length) ∧ PySem.W.keepIn K (.ref (He.ga K x)) = true ∧ KBn K fd ps np ks (fun us ws => gF ar us mv ws) (fun vs zs => gF ar vs (ds.map litV) zs)
  ok : ArOk ds ar
section
variable {X : Cx} {g : Cfg} {pos p0 : Pos} {a : Expr} {x : Str} {es : List Expr} {is js : Es} {k f : Nat} {kws : List Keyword} {ar : List Ar} {ds : List T} {ksn : List Str}
theorem snd_callw (M : CwC X.prog X.w X.K X.mg X.base g.xr g.C k f x (es.length + 1) ksn ar ds) (hr : Room k X.A) (tk : Takes X g.W) (hg : Gl X x) (hm : X.mg x = some (.ref (He.ga X.K x))) (ha : PA X (a :: es) (tEs X.K g is)) (hk : PK X kws (tEs X.K g js))
    (la : esLen is = es.length + 1) (lk : esLen js = ksn.length)
    (hall : (backToKw pos (keywordEach kws X.env)).all (·.1.isSome) = true) (hks : (backToKw pos (keywordEach kws X.env)).filterMap (·.1) = ksn) (hdb : (x == ("__debug__" : Str)) = false)
    (he : starEach (a :: es) X.env = (false, eval a X.env) :: starEach es X.env) (hpl : ((backTo pos (starEach (a :: es) X.env)).any (·.1) || (backToKw pos (keywordEach kws X.env)).any (·.1.isNone)) = false) :
    PE X (.Call (.Name x p0) (a :: es) kws pos) (tE X.K g (.callw f is js ar)) := by
  obtain ⟨⟨fd, ps, mv, F, hkp, kb⟩, ok⟩ := M
  refine ⟨fun pins s σ H Q I ⟨Rt, env, A, rl, p⟩ => ?_⟩
  refine wpAny_Call_Name_kw (ld_glob I hg hm ?_ hdb)
  refine PySem.W.callWith_KW (h₀ := X.base) I.ok.mod.kin hkp hall (thn (ha.run pos pins s σ H (fun vs H1 => tEs X.K g js σ H1 fun zs H2 => vs.length = es.length + 1 ∧ zs.length = ksn.length ∧ spC X.K g.xr g.C f [] ar.length (gF ar vs (ds.map litV) zs) H2 Q (WE g.W σ)) I
    ⟨Rt, env, A, rl, Post.seqE p fun ws e1 vs H1 A1 B1 q1 s1 o1 p1 => ⟨RtB B1 Rt, e1, A1, s1.rl, Post.seq2E s1 p1 fun us e2 q2 zs H2 A2 B2 s2 o2 p2 => ?_⟩⟩) fun us s1 ⟨vs, H1, I1, r, q⟩ => ?_) hpl he
  · obtain ⟨s3, f1, f2⟩ := s1.fzL2 o1 s2 o2
    refine ⟨by rw [← OwnL.len _ _ _ o1, evEs_len _ _ _ _ q1]; exact la, by rw [← OwnL.len _ _ _ o2, evEs_len _ _ _ _ q2]; exact lk, ?_⟩
    cases e3 : arr (fzs ws) (fzs us) ar with
    | none => rw [e3] at p2; exact p2.elim
    | some ts =>
      rw [e3] at p2
      have fz := arr_fz f1 f2 ar ts ok e3
      exact call_fz s3 fz (fz.len.symm.trans (arr_len ar ts e3)) p2
  · refine thn (hk.run pos pins s1 σ H1 _ I1 q) fun ws s2 ⟨zs, H2, I2, rz, l1, l2, q2⟩ => ⟨I2.kIn, ?_⟩
    rw [hks]
    exact wpAny_call (res_of I2 (passAt tk σ) (F.run X.A X.stack s2 H2 ⟨us, ksn.zip ws⟩ _ _ Q (WE g.W σ) hr I2.env0 (kb.to s2 us ws I2.kIn (r.length.symm.trans l1) (rz.length.symm.trans l2)) (kb.rel r rz) q2))
end
end Ev
namespace Ev
open PySem L2
variable [WW]
def spSt (n : Nat) (sp : Sp) : Sp := fun vs H Q E => ∃ ws rest, vs = ws ++ rest ∧ ws.length = n ∧ rest.length ≤ sizeLine ∧ ∀ p, H p = none → sp (ws ++ [V.ref p]) (upd H p (.tup rest)) Q E
def FnR (P : Program) (w : World) (K : PySem.W.Frag) (mg : Str → Option Value) (base : Heap) (CX : CXT) (k : Nat) (f : Addr) (sp : Sp) : Prop :=
  ∀ (A : Around) (outer : List PySem.Env) (s : Shared) (H : Hp) (us : List Value) (vs : List V) (Q : VK) (E : XK), Room k A → Env0 P w K mg base A outer s H → Vals vs us → sp vs H Q E → codeAny (model P w) A (.call (.ref f) ⟨us, []⟩) (L2.CR CX outer P w H s Q E) s
structure MkS (P : Program) (w : World) (K : PySem.W.Frag) (mg : Str → Option Value) (base : Heap) (xr : XR) (C : Calls) (d : Nat) (f : Nat) (c : Str) : Prop where
  ex : ∃ fa, L2.Mk K (He.ga K c) fa ∧ FnR P w K mg base (L2.CX P w) d fa (spSt 1 (spC K xr C f [0] 2))
end Ev
namespace Ev
open PySem L2
variable [WW]
section
variable {X : Cx} {pins : List (Addr × Obj)} {σ : St} {H : Hp} {s : Shared}
theorem dk_rd {a : Addr} {kvs : List (Key × V)} (I : Inv X pins σ H s) (h : Rd H a (.dK kvs)) : (a == sysModules) = false ∧ ∃ va, KV kvs va ∧ s.heap.DictOf (mixKind X.prog X.w) a va := by
  rcases h with h | ⟨u, h⟩
  · obtain ⟨_, ya, va, ra, da⟩ := (show ObjOk X.prog X.w H s.heap a (.dK kvs) from I.hok a _ h)
    exact ⟨ya, va, ra, da⟩
  · obtain ⟨_, _, ya, va, ra, da⟩ := (show ObjOk X.prog X.w H s.heap a (.frz u (.dK kvs)) from I.hok a _ h)
    exact ⟨ya, va, ra, da⟩
theorem eqT_pd {a b : T} {r : Bool} (h : eqT a b = some r) : ∃ d e, a.pd = some d ∧ b.pd = some e ∧ SeqAt.shaped d = true ∧ SeqAt.shaped e = true ∧ PyData.eqv d e = r := by
  unfold eqT at h
  cases e1 : a.pd with
  | none => rw [e1] at h; cases h
  | some d =>
    cases e2 : b.pd with
    | none => rw [e1, e2] at h; cases h
    | some e =>
      rw [e1, e2] at h
      have h' : (if (SeqAt.shaped d && SeqAt.shaped e) = true then some (PyData.eqv d e) else none) = some r := h
      by_cases c : (SeqAt.shaped d && SeqAt.shaped e) = true
      · rw [if_pos c] at h'
        rw [Bool.and_eq_true] at c
        exact ⟨d, e, rfl, rfl, c.1, c.2, Option.some.inj h'⟩
      · rw [if_neg c] at h'; cases h'
theorem hits_fz {A : Around} {av : Addr → Prop} {kb : List (Key × V)} {vb : List (Key × Value)} {ksb : List Key} {tsb : List T} (I : Inv X pins σ H s) (hu : A.in1.units + 64 < cLine) (rb : KV kb vb) (f1 : kb.map (·.1) = ksb) (f2 : FzL X.K H av tsb (kb.map (·.2))) :
    ∀ {ka : List (Key × V)} {va : List (Key × Value)}, KV ka va → ∀ {ks : List Key} {ts : List T} {r : Bool}, ka.map (·.1) = ks → FzL X.K H av ts (ka.map (·.2)) → hitsT ksb tsb ks ts = some r → PySem.W.KeqHits A.in1 s vb va r := by
  intro ka va ra
  unfold KV at ra
  induction ra with
  | nil =>
    intro ks ts r e1 e2 h
    subst e1
    cases ts with
    | nil =>
      cases (show some true = some r from h)
      exact .nil
    | cons t ts =>
      obtain ⟨_, _, z, _⟩ := e2
      cases z
  | @cons p q ps qs hpq t ih =>
    intro ks ts r e1 e2 h
    obtain ⟨h1, h2⟩ := hpq
    obtain ⟨k, v⟩ := q
    have h1' : p.1 = k := h1
    subst e1
    cases ts with
    | nil => cases (show p.2 :: ps.map (·.2) = [] from e2)
    | cons t1 ts =>
      obtain ⟨v1, r1, z, fz1, fz2⟩ := e2
      obtain ⟨z1, z2⟩ := List.cons.inj (show p.2 :: ps.map (·.2) = v1 :: r1 from z)
      subst z1 z2
      have h' : (match getN ksb tsb p.1 with
        | none => some false
        | some u => (eqT t1 u).bind fun e => (hitsT ksb tsb (ps.map (·.1)) ts).map (e && ·)) = some r := h
      rcases DctO.get (o := .dK kb) (k := p.1) f1 rfl f2 with ⟨g1, g2, _⟩ | ⟨u, y, g1, g2, g3, _⟩
      · rw [g1] at h'
        cases (show some false = some r from h')
        have rr : RelO (valV kb p.1) (valueAt vb p.1) := rb.val p.1
        rw [g2] at rr
        have hn : valueAt vb k = none := by
          rw [← h1']
          cases e : valueAt vb p.1 with
          | none => rfl
          | some z => rw [e] at rr; cases rr
        exact .miss hn
      · rw [g1] at h'
        obtain ⟨e, ee, h3⟩ := Option.bind_eq_some_iff.mp (show (eqT t1 u).bind (fun e => (hitsT ksb tsb (ps.map (·.1)) ts).map (e && ·)) = some r from h')
        obtain ⟨r', er, h4⟩ := Option.map_eq_some_iff.mp h3
        subst h4
        have rr : RelO (some y) (valueAt vb p.1) := by rw [← g2]; exact rb.val p.1
        obtain ⟨z, hz, rz⟩ := rr.some_of
        rw [h1'] at hz
        obtain ⟨d1, d2, q1, q2, q3, q4, q5⟩ := eqT_pd ee
        obtain ⟨as, w1⟩ := Dp.reads I d1 _ _ (Fz.dp t1 _ d1 q1 fz1) h2
        obtain ⟨bs, w2⟩ := Dp.reads I d2 _ _ (Fz.dp u _ d2 q2 g3) rz
        have eq := PySem.W.keq_at (A := A) w1 w2 q3 q4 hu
        rw [q5] at eq
        exact .hit hz eq (ih rfl fz2 er)
end
end Ev
namespace Ev
open PySem L2
variable [WW]
section
variable {X : Cx} {g : Cfg} {tg a : Expr} {ia : E} {pos : Pos} {i : Nat} {x : Str}
def iKeysL (td : TE) : TI := fun σ H R => td σ H fun x H1 => ∃ d kvs, x = .ref d ∧ ((H1 d = some (.dK kvs) ∧ ∀ o, R (Itk d o kvs) (upd H1 d (.frz o (.dK kvs)))) ∨ ∃ o, H1 d = some (.frz o (.dK kvs)) ∧ R (Itk d o kvs) H1)
theorem Rl.lock {K : PySem.W.Frag} {Rt : Addr → Prop} {H : Hp} {σ : St} {env : Env} {A : List Addr} {ks : List Key} {ws : List W} (rl : Rl K Rt H σ env A) (hi : env[i]? = some (some (.nd (.dct ks) ws))) :
    ∃ d kvs, σ[i]? = some (some (.ref d)) ∧ H d = some (.dK kvs) ∧ kvs.map (·.1) = ks ∧ ∀ u, ∃ A', Sx K Rt σ H A (upd H d (.frz u (.dK kvs))) (env.set i (some (.val (.nd (.dcl ks) (fzs ws))))) A' [] ∧ ¬ Av (A' ++ []) Rt d := by
  obtain ⟨A1, B, A2, eA, _, hw, hu⟩ := RE.slot env σ A i rl.re (List.getElem?_eq_some_iff.mp hi).1
  obtain ⟨v, ev, ow⟩ := hw _ hi
  obtain ⟨d, xs, o, D, rfl, rfl, hd, ⟨no, _⟩, hl⟩ := ow
  have no' := no
  obtain ⟨kvs, rfl, c1, c2, nk⟩ := no
  subst eA
  obtain ⟨nd, out⟩ := nodup_mid rl.nd
  refine ⟨d, kvs, ev, hd, c1, fun u => ⟨A1 ++ A2, ?_, ?_⟩⟩
  have sub : ∀ b ∈ A1 ++ A2, b ∈ A1 ++ ((d :: D) ++ A2) := fun b hb => by
    rcases List.mem_append.mp hb with z | z
    · exact List.mem_append_left _ z
    · exact List.mem_append_right _ (List.mem_append_right _ z)
  have din : d ∈ A1 ++ ((d :: D) ++ A2) := List.mem_append_right _ (List.mem_append_left _ List.mem_cons_self)
  have nD : d ∉ D := by
    have := (List.nodup_append.mp (List.nodup_append.mp rl.nd).2.1).1
    exact (List.nodup_cons.mp this).1
  have tups : ∀ b ys, Rd H b (.tup ys) → Rd (upd H d (.frz u (.dK kvs))) b (.tup ys) := fun b ys q => by
    have e : b ≠ d := fun z => by
      subst z
      rcases q with q | ⟨o, q⟩ <;> (rw [hd] at q; cases q)
    exact Rd.mono q fun o q => by first | exact KN.put e q | (rw [upd_ne e]; exact q)
  have nout : ¬ Av (A1 ++ A2) Rt d := fun z => z.elim (out d List.mem_cons_self) (rl.rt d din)
  · have kd : OwnL K (upd H d (.frz u (.dK kvs))) (Av (A1 ++ ((d :: D) ++ A2)) Rt) ws xs D := OwnL.mono ws xs D (fun b o q c => by
      refine KN.put (fun z => ?_) q
      subst z
      rcases c with c | c
      · exact nD c
      · exact c (.inl din)) tups (fun b z => .inl z) hl
    have fz : FzL K (upd H d (.frz u (.dK kvs))) (Av (A1 ++ A2) Rt) (fzs ws) xs := OwnL.fz (fun b z => z.imp (sub b) id) ws xs D (fun b hb z => by
      rcases z with z | z
      · exact out b (List.mem_cons_of_mem _ hb) z
      · exact rl.rt b (List.mem_append_right _ (List.mem_append_left _ (List.mem_cons_of_mem _ hb))) z) kd
    have il : i < σ.length := by rw [← RE.len _ _ _ rl.re]; exact (List.getElem?_eq_some_iff.mp hi).1
    have re := (hu (upd H d (.frz u (.dK kvs))) (Av (A1 ++ A2) Rt) (fun b o q c => by
      refine KN.put (fun z => ?_) q
      subst z
      rcases c with c | c
      · exact out b List.mem_cons_self c
      · exact c (.inl din)) tups (fun b z => .inl (z.imp (sub b) id))).2 (.val (.nd (.dcl ks) (fzs ws))) (.ref d) [] ⟨rfl, d, xs, .dK kvs, rfl, ⟨u, upd_same⟩, nout, ⟨kvs, rfl, c1, c2, nk⟩, fz⟩
    rw [set_same ev] at re
    refine ⟨((Go.refl (A := A1 ++ ((d :: D) ++ A2))).put (.inl din) (fun ys z => by rcases z with z | ⟨o, z⟩ <;> (rw [hd] at z; cases z)) (fun q z => by rw [hd] at z; unfold LamX.CodeO at z; cases z)).sub (fun b hb => by rw [List.append_nil] at hb; exact sub b hb), by rw [List.append_nil]; exact nd, fun b hb => ?_, fun b z => ?_, fun b hb => (by cases hb), by rw [List.append_nil]; exact re, rl.tb.put (fun ps z => by rw [hd] at z; cases z) (fun q z => by rw [hd] at z; unfold LamX.CodeO at z; cases z)⟩
    · rw [List.append_nil] at hb
      exact rl.rt b (sub b hb)
    · by_cases e : b = d
      · subst e; rw [upd_same]; exact fun q => by cases q
      · rw [upd_ne e]; exact rl.th b z
  · rw [List.append_nil]
    exact fun z => z.elim (out d List.mem_cons_self) (rl.rt d (List.mem_append_right _ (List.mem_append_left _ List.mem_cons_self)))
end
end Ev
namespace Ev
open PySem L2
variable [WW]
def KEnt (K : PySem.W.Frag) : List DictEntry → List Str → List T → Prop
  | [], [], [] => True
  | e :: r, k :: ks, t :: ts => (∃ tok, e.key = .str k tok) ∧ (∃ v, RelV v e.val ∧ ∀ H av, Fz K H av t v) ∧ KEnt K r ks ts
  | _, _, _ => False
structure KMn (K : PySem.W.Frag) (w : World) (d : Addr) (ks : List Str) (ts : List T) : Prop where
  kd : ∃ es n, KDict K w d es n ∧ KEnt K es.toList ks ts
theorem KEnt.find {K : PySem.W.Frag} {z : Str} : ∀ {l : List DictEntry} {ks : List Str} {ts : List T}, KEnt K l ks ts → (l.find? (·.key.isStr z) = none ∧ getN (inrs ks) ts (.inr z) = none ∧ ((inrs ks).any fun j => decide (j = .inr z)) = false ∧ l.any (·.refKey) = false) ∨
    ∃ e t v, l.find? (·.key.isStr z) = some e ∧ getN (inrs ks) ts (.inr z) = some t ∧ ((inrs ks).any fun j => decide (j = .inr z)) = true ∧ RelV v e.val ∧ ∀ H av, Fz K H av t v
  | [], [], [], _ => .inl ⟨rfl, rfl, rfl, rfl⟩
  | e :: r, k :: ks, t :: ts, h => by
    obtain ⟨⟨tok, ek⟩, ⟨v, rv, fv⟩, h⟩ := h
    have g1 : getN (inrs (k :: ks)) (t :: ts) (.inr z) = if (Sum.inr k : Key) = .inr z then some t else getN (inrs ks) ts (.inr z) := rfl
    have g2 : ((inrs (k :: ks)).any fun j => decide (j = .inr z)) = (decide ((Sum.inr k : Key) = .inr z) || (inrs ks).any fun j => decide (j = .inr z)) := rfl
    have g3 : e.key.isStr z = (k == z) := by rw [ek]; rfl
    by_cases c : k = z
    · subst c
      refine .inr ⟨e, t, v, ?_, ?_, ?_, rv, fv⟩
      · rw [List.find?_cons, g3, beq_self_eq_true]
      · rw [g1, if_pos rfl]
      · rw [g2, decide_eq_true rfl, Bool.true_or]
    · have c1 : (k == z) = false := beq_eq_false_iff_ne.mpr c
      have c2 : ¬ (Sum.inr k : Key) = .inr z := fun q => c (Sum.inr.inj q)
      rw [g1, g2, if_neg c2, decide_eq_false c2, Bool.false_or, List.find?_cons, g3, c1, List.any_cons]
      rcases KEnt.find (z := z) h with ⟨h1, h2, h3, h4⟩ | h1
      · refine .inl ⟨h1, h2, h3, ?_⟩
        rw [h4, Bool.or_false]
        unfold DictEntry.refKey
        rw [ek]
      · exact .inr h1
theorem KMn.ns {K : PySem.W.Frag} {w : World} {d : Addr} {ks : List Str} {ts : List T} {z : Str} {es : Array DictEntry} {n : Nat} (D : KDict K w d es n) (h : KEnt K es.toList ks ts) : (PySem.W.nsIn K d z = some none ∧ getN (inrs ks) ts (.inr z) = none ∧ ((inrs ks).any fun j => decide (j = .inr z)) = false) ∨
    ∃ u t v, PySem.W.nsIn K d z = some (some u) ∧ getN (inrs ks) ts (.inr z) = some t ∧ ((inrs ks).any fun j => decide (j = .inr z)) = true ∧ RelV v u ∧ ∀ H av, Fz K H av t v := by
  unfold PySem.W.nsIn
  rw [D.at_]
  rcases KEnt.find (z := z) h with ⟨h1, h2, h3, h4⟩ | ⟨e, t, v, h1, h2, h3, h4, h5⟩
  · refine .inl ⟨?_, h2, h3⟩
    dsimp only
    rw [h1, h4]
    rfl
  · refine .inr ⟨e.val, t, v, ?_, h2, h3, h4, h5⟩
    dsimp only
    rw [h1]
theorem KEnt.key {K : PySem.W.Frag} : ∀ {l : List DictEntry} {ks : List Str} {ts : List T}, KEnt K l ks ts → ∀ {i : Nat} {e : DictEntry}, l[i]? = some e → ∃ k tok, ks[i]? = some k ∧ e.key = .str k tok
  | [], [], [], _, i, e, h => by simp at h
  | e :: r, k :: ks, t :: ts, h, 0, e', h' => by
    obtain ⟨⟨tok, ek⟩, _, _⟩ := h
    cases h'
    exact ⟨k, tok, rfl, ek⟩
  | e :: r, k :: ks, t :: ts, h, i + 1, e', h' => by
    obtain ⟨_, _, h⟩ := h
    exact KEnt.key h (by simpa using h')
theorem KEnt.len {K : PySem.W.Frag} : ∀ {l : List DictEntry} {ks : List Str} {ts : List T}, KEnt K l ks ts → l.length = ks.length
  | [], [], [], _ => rfl
  | e :: r, k :: ks, t :: ts, h => by
    obtain ⟨_, _, h⟩ := h
    rw [List.length_cons, List.length_cons, KEnt.len h]
def Itw (ks : List Str) : L2.It := ⟨fun i _ => i < ks.length, fun i H x H' => H' = H ∧ ∃ k, ks[i]? = some k ∧ x = .str k, fun i _ => ks.length ≤ i⟩
end Ev
namespace Ev
open PySem L2
variable [WW]
structure SxIs (S : Str → Bool) (n : Nat) (is : List Str) : Prop where
  mem : ∀ i, S i = true ↔ i ∈ is
  nd : is.Nodup
  len : n = is.length
theorem SxIs.nil : SxIs (fun _ => false) 0 [] := ⟨fun i => by simp, List.nodup_nil, rfl⟩
theorem addS_mem {acc : List Str} {k j : Str} : j ∈ addS acc k ↔ j ∈ acc ∨ j = k := by
  unfold addS
  by_cases c : (acc.any fun y => decide (y = k)) = true
  · rw [if_pos c]
    obtain ⟨y, hy, e⟩ := List.any_eq_true.mp c
    cases of_decide_eq_true e
    exact ⟨.inl, fun z => z.elim id fun z => by rw [z]; exact hy⟩
  · rw [if_neg c]
    simp
theorem SxIs.add {S : Str → Bool} {n : Nat} {is : List Str} (h : SxIs S n is) (k : Str) : SxIs (fun j => S j || decide (j = k)) (if S k = true then n else n + 1) (addS is k) := by
  have hk : (is.any fun y => decide (y = k)) = true ↔ k ∈ is := by
    rw [List.any_eq_true]
    exact ⟨fun ⟨y, hy, e⟩ => by cases of_decide_eq_true e; exact hy, fun z => ⟨k, z, decide_eq_true rfl⟩⟩
  refine ⟨fun i => ?_, ?_, ?_⟩
  · rw [addS_mem, Bool.or_eq_true, decide_eq_true_iff, h.mem]
  · unfold addS
    by_cases c : (is.any fun y => decide (y = k)) = true
    · rw [if_pos c]; exact h.nd
    · rw [if_neg c]
      refine List.nodup_append.mpr ⟨h.nd, by simp, fun a ha b hb e => ?_⟩
      cases List.mem_singleton.mp hb
      subst e
      exact c (hk.mpr ha)
  · unfold addS
    by_cases c : (is.any fun y => decide (y = k)) = true
    · rw [if_pos c, if_pos ((h.mem k).mpr (hk.mp c))]; exact h.len
    · rw [if_neg c, if_neg fun z => c (hk.mpr ((h.mem k).mp z)), List.length_append, h.len]; rfl
def evSx (G : Nat → Option T) (C : Calls) (own : List Nat) (tg : Tg) (it : Ev.It) (cs : Tts) (e : E) (env : Env) : R (List Str) := (evI G C it env).bind fun ts env1 => if (hidOk env1 own && tgIn tg own) = true then (match sxL tg own (evTs G C cs) (evE G C e) ts [] (wipeE env1 own) with
    | .ok is env2 => .ok is (backE env1 env2 own)
    | _ => .no) else .no
def PX (w : World) : List Str → V → Hp → (Addr → Prop) → List Addr → Prop := fun is v H _ B => ∃ a S n, v = .ref a ∧ B = [a] ∧ H a = some (TxO w a S n) ∧ SxIs S n is ∧ n < 4096
def tX (K : PySem.W.Frag) (w : World) (g : Cfg) (own : List Nat) (tg : Tg) (it : Ev.It) (cs : Tts) (e : E) : TE := fun σ H Q => ∃ Rt env A, Rl K Rt H σ env A ∧ Post K g (PX w) Rt σ H A (evSx g.G g.C own tg it cs e env) Q
end Ev
namespace Ev
open PySem L2
variable [WW]
section
variable {X : Cx} {g : Cfg}
def inn2 (g : Cfg) (own2 : List Nat) (tg2 : Tg) (it2 : Ev.It) (e : E) : List W → Env → R (List W) := fun acc env2 => (evI g.G g.C it2 env2).bind fun us env3 => if hidOk env3 own2 = true then lcL tg2 own2 (evTs g.G g.C .nil) (evE g.G g.C e) us acc (wipeE env3 own2) else .no
end
end Ev
namespace Ev
open PySem L2
variable [WW]
def kwOf : List DictEntry → List (Str × Value)
  | [] => []
  | e :: r => (match e.key with | .str x _ => [(x, e.val)] | _ => []) ++ kwOf r
end Ev
namespace Ev
open PySem PySem.Spec PyProof.Rows L2 PySem.W
variable [WW]

abbrev supBody (p0 p1 p2 p3 p4 p5 p6 p7 p8 p9 : Pos) : List Stmt :=
  [.Expr (.Call (.Attribute (.Call (.Name "super" p0) [] [] p1) "__init__" p2) [.Name "value" p3] [] p4) p5, .Assign [.Attribute (.Name "self" p6) "value" p7] (.Name "value" p8) p9]
structure SupC (K : Frag) (D C : Addr) : Prop where
  ox : OexC K C
  mr : mroIn K C (.ref D) = some true
  su : ks_superIn K C D "__init__" = some (some (.builtin "ValueError.__init__"))
  ve : subIn K (.ref C) (.type "ValueError") = some true
  no : findIn K (.ref C) "value" = some none
def spSup (K : Frag) (D : Addr) : Sp := fun vs H Q _ => ∃ (a : Addr) (v : V) (C : Addr), vs = [.ref a, v] ∧ SupC K D C ∧ H a = some (exo a C none) ∧
  ∀ dx, H dx = none → dx ≠ a → Q .non (upd (upd H dx (exd dx [("value", v)])) a (exo a C (some dx)))

section
variable {prog : Program} {w : World} {A : Around} {E : Value → Shared → Prop} {h : Heap} {g : Array GenState} {d : Drawn} {t : Nat} {os : OsState}
variable {nm q : Str} {C N : Addr} {bs bm : List Value} {hdct : Bool} {sn : List Str} {sub : List Value} {ab : Bool} {col : Option Bool} {dd : Option Addr} {k0 k1 k2 k3 k5 : Option Value}
theorem call_mw {u e t0 : Addr} {rest : List Value} {Q : Value → Shared → Prop} (hbm : PySem.HandSPX.refsVE bm = true)
    (hC : h.get? C = some (excClassObj nm q C N bs bm hdct sn sub ab col dd k0 k1 k2 k3 k5 "ValueError.__new__")) (he : h.get? e = some (HandSPX.excO C t0)) (hu : h.get? u = some (kxs_mw "ValueError.__init__" e)) (hrest : rest.length ≤ sizeLine)
    (hq : ∀ h' t1, (∀ b o, b ≠ e → h.get? b = some o → h'.get? b = some o) → h'.get? e = some (HandSPX.excO C t1) → Q .none ⟨h', g, d, t, os⟩) :
    wpAny (model prog w) A (call (.ref u) rest) Q E ⟨h, g, d, t, os⟩ := by
  refine wpAny_call (codeAny_of_tree ?_)
  show wpAny _ A.in1 (callAny (.ref u) ⟨rest, []⟩) _ _ _
  simp only [callAny]
  refine wpAny_bind (wpAny_load hu ?_)
  simp only [kxs_mw, show (Value.type "method-wrapper" == Value.type "method" || Value.type "method-wrapper" == Value.type "builtin_function_or_method" || Value.type "method-wrapper" == Value.type "method-wrapper") = true by decide, if_true]
  refine W.KFB.if_so (by decide) ?_
  refine wpAny_bind (ESX.check_bound F.excBase_ValueError hC he rfl ?_)
  refine wpAny_bind (wpAny_pure (wpAny_pure ?_))
  refine ⟨Code.quiet_builtin _ (by decide +kernel), codeAny_builtin F.excBase_ValueError.initEntry ?_⟩
  rw [Around.under_plainId F.excBase_ValueError.init.plain _]
  wp_walk
  refine hq _ h.objs.size (fun b o hb ho => ?_) ?_
  · rw [Heap.get?_update_other _ _ (Ne.symm hb)]
    exact Heap.get?_push_of_some _ ho
  · rw [Heap.get?_update_self _ (Heap.get?_push_of_some _ he) rfl]
    rfl
end

def cxSup (CX : CXT) (P : Program) (w : World) (K : PySem.W.Frag) (mg : Str → Option Value) (base : Heap) (qual : Str) (scope : Scope) (f : Addr) (cd : Value) (cc : Addr) (A : Around) (outer : List PySem.Env) (s : Shared) (H : Hp) (E : XK) : Cx where
  prog := P
  w := w
  K := K
  mg := mg
  base := base
  A := A.deeper (ksEnv qual scope s.heap.objs.size f cd cc)
  N := ["self", "value"]
  s_0 := s
  H_0 := H
  env := ksEnv qual scope s.heap.objs.size f cd cc
  outer := outer
  stack := ksEnv qual scope s.heap.objs.size f cd cc :: outer
  ex := []
  calm := true
  fn := fun _ => false
  pn := []
  xe := fun e s' => wpAny (model P w) (A.deeper (ksEnv qual scope s.heap.objs.size f cd cc)) (leaving (ksEnv qual scope s.heap.objs.size f cd cc) e) (fun _ s'' => CX outer H s E e s'') (fun e' s'' => CX outer H s E e' s'') s'

structure SupS (scope : Scope) : Prop where
  kind : scope.kind = .function
  co : scope.isCoroutine = false
  gen : scope.isGenerator = false
  nocell : ∀ x ∈ scope.names, x.2 ≠ .cell
  free : ∀ x, scope.names.lookup x = some .free → x = "__class__"
  sup : scope.names.lookup ("super" : Str) = some .globalImplicit
  cls : scope.names.lookup ("__class__" : Str) = some .free
  self : scope.names.lookup ("self" : Str) = some .local
  val : scope.names.lookup ("value" : Str) = some .local

section
variable {CX : CXT} {P : Program} {w : World} {K : PySem.W.Frag} {mg : Str → Option Value} {base : Heap} {k : Nat} {f cc cda D : Addr} {name qual : Str} {params : Arguments} {scope : Scope} {dV kV doc pm ct oc ccl cl : Value} {an od cdd cld : Option Addr} {osl ccs csl : Array (Option Value)}
  {p0 p1 p2 p3 p4 p5 p6 p7 p8 p9 : Pos} {vs0 : Array Value} {file : Str} {tf : Tok} {cdD : ClassData} {ar : Arg}
theorem sup_inv {A : Around} {outer : List PySem.Env} {s : Shared} {H : Hp} {E : XK} {u0 u1 : Value} {v0 v1 : V} {h0 : Heap} {tk : Nat} (S : SupS scope) (hd : A.handled = none) (e0 : Env0 P w K mg base A outer s H) (hcell : K.lookup cc = some ⟨cl, cld, .cell (some (.ref D)), csl⟩)
    (r0 : RelV v0 u0) (r1 : RelV v1 u1) (hns : h0.Ns s.heap.objs.size (fun x => ((["self", "value"] : List Str).zip [u0, u1]).reverse.lookup x)) (hk : ∀ b o, s.heap.get? b = some o → h0.get? b = some o) :
    Inv (cxSup CX P w K mg base qual scope f (.ref cda) cc A outer s H E) [] [some v0, some v1] H { s with heap := h0, toks := tk } := by
  have noA : ∀ b : Addr, b ∉ (cxSup CX P w K mg base qual scope f (.ref cda) cc A outer s H E).ex := fun b z => absurd (show b ∈ ([] : List Addr) from z) (by simp)
  have KX : K.In s.heap := e0.mod.kin.keeps fun b o e => (e0.bs b o e).1
  have one : ∀ (y : Str) (c : Addr), ([(("__class__" : Str), cc)] : List (Str × Addr)).lookup y = some c → y = "__class__" ∧ c = cc := fun y c h => by
    rw [List.lookup_cons] at h
    by_cases e : y = "__class__"
    · subst e
      simp at h
      exact ⟨rfl, h.symm⟩
    · have : (y == ("__class__" : Str)) = false := by simpa using e
      rw [this] at h
      simp at h
  have hcb : H cc = none := (e0.bs cc _ (e0.mod.kin _ _ hcell)).2
  refine ⟨⟨e0.mod, S.kind, rfl, rfl, Nat.le_refl _, fun y z c h1 h2 => ?_, fun y hy => ?_, fun y c z h => ?_, fun _ => hd, Around.frames_deeper e0.frames, .inr ⟨rfl, rfl⟩, fun b z => absurd z (noA b), e0.bs, e0.bsz, fun b _ _ => noA b, fun b z => absurd z (noA b), e0.funs, e0.frf⟩,
    rfl, e0.bare, Un.kept hk, ⟨_, hns, fun i y v h1 h2 h3 => ?_⟩, fun y c h => ?_, e0.hok.fresh (Nat.le_refl _), fun y c h => ?_, fun p hp => absurd (show p ∈ ([] : List (Addr × Obj)) from hp) (by simp), e0.hok.kept hk, rfl⟩
  · exact (one y c h1).1.trans (one z c h2).1.symm
  · have hy : scope.names.lookup y = some .cell ∨ scope.names.lookup y = some .free := hy
    rcases hy with hy | hy
    · exact absurd rfl (S.nocell _ (PySem.mem_of_lookup hy))
    · rw [S.free y hy]
      exact ⟨cc, rfl⟩
  · cases z
  · match i, h1, h2 with
    | 0, h1, h2 =>
      cases h1; cases h2
      exact ⟨u0, r0, .inl ⟨S.self, by first | rfl | kernel_rfl⟩⟩
    | 1, h1, h2 =>
      cases h1; cases h2
      exact ⟨u1, r1, .inl ⟨S.val, by first | rfl | kernel_rfl⟩⟩
    | n + 2, h1, h2 => simp [cxSup] at h1
  · obtain ⟨_, rfl⟩ := one y c h
    exact ⟨_, _, hk _ _ (KX _ _ hcell), rfl⟩
  · obtain ⟨_, rfl⟩ := one y c h
    exact hcb
theorem sup_fn (lk : K.lookup f = some ⟨oc, od, .func (ksFn name qual params (supBody p0 p1 p2 p3 p4 p5 p6 p7 p8 p9) scope dV kV doc pm an (.ref cda) ct cc), osl⟩) (hcd : codeIn K (.ref cda) qual = true) (S : SupS scope)
    (hcode : K.lookup cda = some ⟨ccl, cdd, .fields vs0, ccs⟩) (hvs : vs0[2]? = some (.str file tf)) (hfile : ((P.main.file : Str) == file) = true) (hcell : K.lookup cc = some ⟨cl, cld, .cell (some (.ref D)), csl⟩) (hD : clsIn K D = some cdD)
    (hp : (params.posonlyargs ++ params.args).head? = some ar) (har : ar.arg = "self") (htop : (P.main.scope.names.lookup ("super" : Str)).isSome = false) (hmg : mg "super" = none) (hop : nsIn K cStatics "thirdparty.any" = some none)
    {pl : Addr → Sem Bool} (hev : ∀ L : Addr, eval (.Call (.Attribute (.Call (.Name "super" p0) [] [] p1) "__init__" p2) [.Name "value" p3] [] p4) (ksEnv qual scope L f (.ref cda) cc) = (do
      let ov ← attributeBase (.Call (.Name "super" p0) [] [] p1) "__init__" (ksEnv qual scope L f (.ref cda) cc) (eval (.Call (.Name "super" p0) [] [] p1) (ksEnv qual scope L f (.ref cda) cc))
      standAt p2.atName
      let (f', first) ← holding [ov] (getMethod ov "__init__" (pl L))
      callWith p4 f' first (backTo p4 (starEach [.Name "value" p3] (ksEnv qual scope L f (.ref cda) cc))) [])) :
    L2.FnOk P w K mg base CX (k + 1) f (ksFn name qual params (supBody p0 p1 p2 p3 p4 p5 p6 p7 p8 p9) scope dV kV doc pm an (.ref cda) ct cc) ["self", "value"] (spSup K D) := by
  refine ⟨fun vs H Q E h => by obtain ⟨a, v, C, rfl, _⟩ := h; rfl, fun A outer s H args us vs Q E hr e0 hb r hsp => ?_⟩
  obtain ⟨a, v, C, rfl, T, ea, hq⟩ := hsp
  have KX : K.In s.heap := e0.mod.kin.keeps fun b o e => (e0.bs b o e).1
  have lim : s.heap.NoLimit := e0.mod.nolimit.keeps fun b o e => (e0.bs b o e).1
  cases r with
  | @cons _ u0 _ ur ra r1 =>
  cases r1 with
  | @cons _ u1 _ _ rv r2 =>
  cases r2
  obtain rfl : u0 = Value.ref a := ra
  refine ks_codeAny_call_defAt (fd := ksFn name qual params (supBody p0 p1 p2 p3 p4 p5 p6 p7 p8 p9) scope dV kV doc pm an (.ref cda) ct cc) hr.depth (KX _ _ lk) rfl lim (codeRec_of KX hcd) rfl hb S.nocell (fun y hy => ?_) (fun h0 hns hk => ?_) S.co S.gen S.kind
  · have hy' : y ∈ [((("self" : Str)), Value.ref a), (("value" : Str), u1)] := hy
    rcases List.mem_cons.mp hy' with rfl | hy'
    · exact S.self
    · rcases List.mem_cons.mp hy' with rfl | hy'
      · exact S.val
      · cases hy'
  have I := sup_inv (CX := CX) (P := P) (w := w) (f := f) (cda := cda) (qual := qual) (E := E) (tk := s.toks + 2) S hr.hd e0 hcell (show L2.RelV (.ref a) (.ref a) from rfl) rv hns hk
  show _root_.PySem.wpAt (model P w) (A.deeper (ksEnv qual scope s.heap.objs.size f (.ref cda) cc)) (.func (supBody p0 p1 p2 p3 p4 p5 p6 p7 p8 p9) (ksEnv qual scope s.heap.objs.size f (.ref cda) cc)) (execs (supBody p0 p1 p2 p3 p4 p5 p6 p7 p8 p9) (ksEnv qual scope s.heap.objs.size f (.ref cda) cc)) _ _ { s with heap := h0, toks := s.toks + 2 }
  obtain ⟨nm, qn, Nn, bs, bm, sn, sub, ab, col, dd, k0, k1, k2, k3, k5, hC, hbm⟩ := T.ox.cls
  have hcl : clsIn K C = some { name := nm, bases := bs, mro := .ref C :: bm, ns := Nn, qualname := qn, hasDict := true, slotNames := sn, subclasses := sub, abstract := ab, collection := col, hasDel := false } := by unfold clsIn; rw [hC] <;> rfl
  have K0 : K.In h0 := I.kIn
  obtain ⟨t1, ho⟩ := exo_at I.hok ea
  have ho : h0.get? a = some ({ cls := .ref C, dict := none, data := .fields #[.ref t1, .none, .none, .none, .bool false, .none] } : Obj) := ho
  obtain ⟨oD, hD1, hD2⟩ : ∃ oD, h0.get? D = some oD ∧ oD.data = .cls cdD := by
    unfold clsIn at hD
    split at hD
    · rename_i c d cd' sl hoD
      cases hD
      exact ⟨_, K0 _ _ hoD, rfl⟩
    · cases hD
  refine ks_wpAt_execs_cons (ks_wpAt_Expr_any (ks_wpAt_MethodCall ?_ (hev _)) I.quiet)
  refine ks_wpAt_super_base (env := ksEnv qual scope s.heap.objs.size f (.ref cda) cc) S.sup S.cls (by decide) rfl (K0 _ _ lk) rfl hp rfl (K0 _ _ hcode) rfl hvs hfile htop ?_
  obtain ⟨mb, b1, b2⟩ := I.mod.blt
  refine ks_loadName_global S.kind S.sup (Calls.loadGlobal_builtin (I.mod.glob.keeps I.bk) hmg (b1.keeps I.bk) ((b2 "super" (by decide)).trans PyProof.Rows.Boot.«super») ⟨rfl, ?_⟩)
  refine wpAny_loadName_free S.kind S.cls rfl ⟨_, K0 _ _ hcell, rfl⟩ ?_
  rw [har]
  refine wpAny_loadName_local (v := .ref a) S.kind S.self hns (by first | rfl | kernel_rfl) ?_
  refine ks_wpAny_isType_cls hD1 hD2 ⟨rfl, ?_⟩
  refine ks_wpAny_call_super (C := C) hD1 hD2 ho rfl (fun c e => by cases e) (looks_mroIn K0 T.mr) fun h1 e1 kp1 => ?_
  have K1 : K.In h1 := K0.keeps kp1
  have J1 : InstAt h1 a _ C none := ⟨kp1 _ _ ho, rfl, rfl, trivial⟩
  have hm : alongIn K "__init__" (((Value.ref C :: bm).dropWhile (· != .ref D)).drop 1) = some (some (.builtin "ValueError.__init__")) := by
    have := T.su
    unfold ks_superIn at this
    rw [hcl] at this
    exact this
  refine kxs_getMethod kxs_ValueError e1 (looks_opaque K1 hop) (l₀ := .ref C :: bm) (fun A Q E s k q => wpAny_bind ((looks_clsIn K1 hcl) A _ E s k (wpAny_pure q))) rfl K1 hm (J1.type.andThen (looks_subIn K1 T.ve)) (ks_ne K1 J1 hcl) (by decide) ?_
  have kp2 : ∀ b o, h1.get? b = some o → (h1.push (kxs_mw "ValueError.__init__" a)).get? b = some o := fun b o e => Heap.get?_push_of_some _ e
  have hu : (h1.push (kxs_mw "ValueError.__init__" a)).get? h1.objs.size = some (kxs_mw "ValueError.__init__" a) := Heap.get?_push_at rfl rfl
  have kp3 : ∀ b o, h0.get? b = some o → (h1.push (kxs_mw "ValueError.__init__" a)).get? b = some o := fun b o e => kp2 b o (kp1 b o e)
  refine kxs_callWith (i := "ValueError.__init__") (x := a) rfl ?_
  refine Calls.evalArgs_plain ?_
  refine Calls.spliced_cons (ESX.ldL (m := fun x => ((["self", "value"] : List Str).zip [Value.ref a, u1]).reverse.lookup x) (hns.keeps kp3) (v := u1) (by first | rfl | kernel_rfl) (Calls.spliced_nil ⟨hu, ?_⟩) S.kind S.val)
  refine call_mw hbm (K1.keeps kp2 _ _ hC) (kp3 _ _ ho) hu (by show 1 ≤ sizeLine; rw [sizeLine_eq]; omega) fun h2 t2 kp hx => ?_
  have J2 := I.kept (h' := h1.push (kxs_mw "ValueError.__init__" a)) (t' := s.toks + 2 + 1) kp3
  have J3 := J2.write (t' := s.toks + 2 + 1) (h' := h2) (x := a) (e := a) (o := exo a C none) (by rw [ea]; exact True.intro) (.inl rfl) kp ⟨_, hx⟩ (exo_ok hx)
  have eu : upd H a (exo a C none) = H := by
    funext b
    by_cases hb : b = a
    · rw [hb, upd_same, ea]
    · rw [upd_ne hb]
  rw [eu] at J3
  refine wpAt_of_wpAny ?_
  refine wpAny_mono ((pss_cons (ps_ost (X := cxSup CX P w K mg base qual scope f (.ref cda) cc A outer s H E) (o := .Name "self" p6) (e := .Name "value" p8) (f := "value") (p' := p7) (pos := p9) (pe_var (i := 0) rfl (.inl S.self)) (pe_var (i := 1) rfl (.inl S.val))) pss_nil).run [] _ [some (.ref a), some v] H { nx := fun _ H' => Q .non H', rt := Q } J3 ?_) (fun fl s' hs => ?_) fun e s' hs => hs
  · exact ⟨v, rfl, .ref a, rfl, a, C, rfl, T.ox, T.no, .inl ⟨ea, fun dx n ne => hq dx n ne⟩⟩
  · cases fl with
    | ret u =>
      obtain ⟨v', σ', H', J, rv', q⟩ := hs
      exact ⟨v', H', J.os, J.bare, J.base, J.hok, rv', q⟩
    | next =>
      obtain ⟨σ', H', J, q⟩ := hs
      exact ⟨.non, H', J.os, J.bare, J.base, J.hok, rfl, q⟩
    | brk =>
      obtain ⟨_, _, _, q⟩ := hs
      exact False.elim q
    | cont =>
      obtain ⟨_, _, _, q⟩ := hs
      exact False.elim q
end
end Ev
namespace Ev
open PySem PySem.Spec PyProof.Rows L2 PySem.W
variable [WW]
def tUp (te : TE) : TE := fun σ H Q => ∃ Q0, te σ H Q0 ∧ ∀ v H1, Q0 v H1 → Q v H1
theorem PE.up {X : Cx} {e : Expr} {te : TE} (h : PE X e te) : PE X e (tUp te) := ⟨fun pins s σ H Q I ⟨Q0, q, k⟩ => thn (h.run pins s σ H Q0 I q) fun u s1 ⟨v, H1, I1, r, q1⟩ => ⟨v, H1, I1, r, k v H1 q1⟩⟩
def tXm (C : Addr) (te : TE) : L2.St → Hp → XK → Prop := fun σ H Q => te σ H fun v H1 => ∀ d, H1 d = none → Q (.ref C) (some d) (upd H1 d (.xd [("value", v)]))
theorem PMk.imp {X : Cx} {e : Expr} {t t' : L2.St → Hp → XK → Prop} (h : PMk X e t) (i : ∀ σ H Q, t' σ H Q → t σ H Q) : PMk X e t' := fun pins s σ H Q I q => h pins s σ H Q I (i σ H Q q)
theorem pmk_sup {X : Cx} {CX : CXT} {x : Str} {C fI D : Addr} {k : Nat} {fd : FuncData} {e : Expr} {te : TE} {p pos : Pos} (T : SupC X.K D C) (iC : findIn X.K (.ref C) "__init__" = some (some (.ref fI))) (tI : typeIn X.K (.ref fI) = some (.type "function"))
    (F1 : L2.FnOk X.prog X.w X.K X.mg X.base CX k fI fd ["self", "value"] (spSup X.K D)) (hr : L2.Room (k + 1) X.A) (hb : Binds X.K fd ["self", "value"] []) (hx : Passes CX X (fun _ _ _ => False)) (hg : Gl X x) (hm : X.mg x = some (.ref C)) (he : PE X e te)
    (hdb : (x == ("__debug__" : Str)) = false := by decide) (hs : starEach [e] X.env = (false, eval e X.env) :: starEach [] X.env := by rfl) :
    PMk X (.Call (.Name x p) [e] [] pos) (tXm C te) := by
  refine PMk.imp (pmk_oex (ds := []) (dvs := []) T.ox iC tI F1 hr hb .nil hx hg hm (pa_cons (PE.up he) pa_nil hs) hdb hs rfl) fun σ H Q q => ?_
  refine ⟨_, q, fun v H1 q1 => ⟨by show 1 ≤ 1000; decide, fun a ha => ⟨a, v, C, rfl, T, upd_same, fun dx n ne => ⟨rfl, dx, [("value", v)], upd_same, ?_, ?_, ?_⟩⟩⟩⟩
  · rw [upd_ne ne, upd_same]
  · rw [upd_ne ne] at n
    exact n
  · rw [upd_ne ne] at n
    have e : upd (del (upd (upd (upd H1 a (exo a C none)) dx (exd dx [("value", v)])) a (exo a C (some dx))) a) dx (.xd [("value", v)]) = upd H1 dx (.xd [("value", v)]) := by
      funext b
      by_cases hb : b = dx
      · rw [hb, upd_same, upd_same]
      · rw [upd_ne hb, upd_ne hb]
        by_cases hba : b = a
        · rw [hba, del_same, ha]
        · rw [del_ne hba, upd_ne hba, upd_ne hb, upd_ne hba]
    rw [e]
    exact q1 dx n
end Ev
namespace Ev
open PySem L2
variable [WW]
theorem ba {a b : Bool} (h : (a && b) = true) : a = true ∧ b = true := Bool.and_eq_true_iff.mp h
section
variable {K : PySem.W.Frag}
mutual
theorem tB_ok : ∀ (t : T) (u : Value), tB K t u = true → ∃ v, RelV v u ∧ ∀ H av, Fz K H av t v
  | .tup ts, u, h => by
    cases u with
    | ref a =>
      have h2 : (match K.lookup a with
        | some ⟨.type c, _, .seq its _, _⟩ => decide (c = "tuple") && (decide (its.size ≤ sizeLine) && tBs K ts its.toList)
        | _ => false) = true := by
        unfold tB at h
        exact h
      cases q : K.lookup a with
      | none => rw [q] at h2; cases h2
      | some o =>
        obtain ⟨oc, od, dt, osl⟩ := o
        rw [q] at h2
        cases oc with
        | type c =>
          cases dt with
          | seq its n =>
            obtain ⟨c1, c2⟩ := ba (show (decide (c = "tuple") && (decide (its.size ≤ sizeLine) && tBs K ts its.toList)) = true from h2)
            obtain ⟨c3, c4⟩ := ba c2
            obtain ⟨vs, rv, fv⟩ := tBs_ok ts its.toList c4
            refine ⟨.ref a, rfl, fun H av => ?_⟩
            exact ⟨a, vs, rfl, .inr ⟨_, its, n, q, congrArg Value.type (of_decide_eq_true c1), rfl, of_decide_eq_true c3, rv⟩, fv H av⟩
          | _ => cases h2
        | _ => cases dt <;> cases h2
    | _ => unfold tB at h; cases h
  | .non, u, h => ⟨.non, He.relB_ok (by unfold tB at h; exact h), fun _ _ => rfl⟩
  | .bl b, u, h => ⟨.bl b, He.relB_ok (by unfold tB at h; exact h), fun _ _ => rfl⟩
  | .int i, u, h => ⟨.int i, He.relB_ok (by unfold tB at h; exact h), fun _ _ => rfl⟩
  | .str x, u, h => ⟨.str x, He.relB_ok (by unfold tB at h; exact h), fun _ _ => rfl⟩
  | .ty _, u, h => by unfold tB at h; cases h
  | .gl _, u, h => by unfold tB at h; cases h
  | .lst _, u, h => by unfold tB at h; cases h
  | .nd _ _, u, h => by unfold tB at h; cases h
  | .set _, u, h => by unfold tB at h; cases h
  | .scr _, u, h => by unfold tB at h; cases h
  | .dn _, u, h => by unfold tB at h; cases h
theorem tBs_ok : ∀ (ts : List T) (us : List Value), tBs K ts us = true → ∃ vs, Vals vs us ∧ ∀ H av, FzL K H av ts vs
  | [], [], _ => ⟨[], .nil, fun _ _ => rfl⟩
  | [], _ :: _, h => by unfold tBs at h; cases h
  | _ :: _, [], h => by unfold tBs at h; cases h
  | t :: ts, u :: us, h => by
    unfold tBs at h
    obtain ⟨h1, h2⟩ := ba h
    obtain ⟨v, rv, fv⟩ := tB_ok t u h1
    obtain ⟨vs, rvs, fvs⟩ := tBs_ok ts us h2
    exact ⟨v :: vs, .cons rv rvs, fun H av => ⟨v, vs, rfl, fv H av, fvs H av⟩⟩
end
theorem entB_ok : ∀ (l : List DictEntry) (ks : List Str) (ts : List T), entB K l ks ts = true → KEnt K l ks ts
  | [], [], [], _ => trivial
  | e :: r, k :: ks, t :: ts, h => by
    obtain ⟨h1, h2⟩ := ba (show ((match e.key with | .str x _ => decide (x = k) | _ => false) && (tB K t e.val && entB K r ks ts)) = true from h)
    obtain ⟨h3, h4⟩ := ba h2
    refine ⟨?_, tB_ok t e.val h3, entB_ok r ks ts h4⟩
    cases q : e.key with
    | str x tok =>
      rw [q] at h1
      rw [of_decide_eq_true h1]
      exact ⟨tok, rfl⟩
    | _ => rw [q] at h1; cases h1
  | [], [], _ :: _, h => by cases h
  | [], _ :: _, _, h => by cases h
  | _ :: _, [], _, h => by cases h
  | _ :: _, _ :: _, [], h => by cases h
theorem menuB_ok {a : Addr} {w : World} {ks : List Str} {ts : List T} (h : menuB K a ks ts = true) (hd : ∃ es n, KDict K w a es n) : KMn K w a ks ts := by
  obtain ⟨es, n, D⟩ := hd
  refine ⟨es, n, D, ?_⟩
  unfold menuB at h
  rw [D.at_] at h
  exact entB_ok _ _ _ h
end
structure XcK (K : PySem.W.Frag) (x D : Str) : Prop where
  sup : SupC K (He.ga K D) (He.ga K x)
  ini : PySem.W.findIn K (.ref (He.ga K x)) "__init__" = some (some (.ref (He.ma K (He.ga K D) "__init__")))
  typ : PySem.W.typeIn K (.ref (He.ma K (He.ga K D) "__init__")) = some (.type "function")
theorem oexB_ok {K : PySem.W.Frag} {C : Addr} (h : oexB K C = true) : OexC K C := by
  obtain ⟨h1, h⟩ := ba h
  obtain ⟨h2, h⟩ := ba h
  obtain ⟨h3, h⟩ := ba h
  obtain ⟨h4, h5⟩ := ba h
  refine ⟨?_, He.eqO_ok h2, of_decide_eq_true h3, of_decide_eq_true h4, h5⟩
  split at h1
  · rename_i t dd cd sl ho
    split at h1
    · rename_i C' bm k0 k1 k2 k3 n k5 hm hs
      obtain ⟨q1, h1⟩ := ba h1
      obtain ⟨q2, h1⟩ := ba h1
      obtain ⟨q3, h1⟩ := ba h1
      obtain ⟨q4, h1⟩ := ba h1
      obtain ⟨q5, q6⟩ := ba h1
      cases (of_decide_eq_true q1 : t = "type")
      cases (of_decide_eq_true q2 : C' = C)
      cases (of_decide_eq_true q3 : n = "ValueError.__new__")
      obtain ⟨nm, bs, mro, ns, qn, hd, sn, sub, ab, col, del⟩ := cd
      dsimp only at hm q4 q5
      subst hm
      cases q4
      have ed : del = false := by
        cases del with
        | false => rfl
        | true => cases q5
      subst ed
      have hsl : sl = #[k0, k1, k2, k3, some (.builtin "ValueError.__new__"), k5] := by
        obtain ⟨l⟩ := sl
        simp only at hs
        rw [hs]
      subst hsl
      exact ⟨nm, qn, ns, bs, bm, sn, sub, ab, col, dd, k0, k1, k2, k3, k5, ho, q6⟩
    · cases h1
  · cases h1
theorem xcB_ok {K : PySem.W.Frag} {x D : Str} (h : xcB K x D = true) : XcK K x D := by
  obtain ⟨h1, h⟩ := ba h
  obtain ⟨h2, h⟩ := ba h
  obtain ⟨h3, h⟩ := ba h
  obtain ⟨h4, h⟩ := ba h
  obtain ⟨h5, h⟩ := ba h
  obtain ⟨h6, h7⟩ := ba h
  exact ⟨⟨oexB_ok h1, of_decide_eq_true h2, He.eqO_ok h3, of_decide_eq_true h4, He.eqO_ok h5⟩, He.eqO_ok h6, of_decide_eq_true h7⟩
theorem strAt_ok {vs : Array Value} {i : Nat} {z : Str} (h : strAt vs i z = true) : ∃ tf, vs[i]? = some (.str z tf) := by
  unfold strAt at h
  split at h
  · rename_i y tf e
    cases (of_decide_eq_true h : y = z)
    exact ⟨tf, e⟩
  · cases h
structure XdK (K : PySem.W.Frag) (d : XD) (oc : Value) (od : Option Addr) (doc pm : Value) (an : Option Addr) (cda : Addr) (ct : Value) (cc : Addr) (osl : Array (Option Value)) (ccl : Value) (cdd : Option Addr) (vs0 : Array Value) (ccs : Array (Option Value)) (tf : Tok) (cl : Value) (cld : Option Addr) (csl : Array (Option Value)) (cdD : ClassData) : Prop where
  lk : K.lookup (He.ma K (He.ga K d.D) "__init__") = some ⟨oc, od, .func (PySem.W.ksFn "__init__" d.qual d.params d.body d.scope .none .none doc pm an (.ref cda) ct cc), osl⟩
  cd : PySem.W.codeIn K (.ref cda) d.qual = true
  co : K.lookup cda = some ⟨ccl, cdd, .fields vs0, ccs⟩
  fi : vs0[2]? = some (.str d.file tf)
  ce : K.lookup cc = some ⟨cl, cld, .cell (some (.ref (He.ga K d.D))), csl⟩
  cls : PySem.W.clsIn K (He.ga K d.D) = some cdD
  st : PySem.W.nsIn K cStatics "thirdparty.any" = some none
theorem XD.sound {K : PySem.W.Frag} {d : XD} (e : xnW K d.D = d.val) (c : d.ok K = true) : ∃ oc od doc pm an cda ct cc osl ccl cdd vs0 ccs tf cl cld csl cdD, XdK K d oc od doc pm an cda ct cc osl ccl cdd vs0 ccs tf cl cld csl cdD := by
  obtain ⟨c1, c2⟩ := ba c
  obtain ⟨c3, c4⟩ := ba c2
  unfold xnW at e
  cases q : K.lookup (He.ma K (He.ga K d.D) "__init__") with
  | none => rw [q] at c1; cases c1
  | some o =>
    obtain ⟨oc, od, dt, osl⟩ := o
    rw [q] at c1 e
    cases dt with
    | func fd =>
      obtain ⟨n1, n2, n3, n4, n5, n6, n7, n8, n9, n10, n11, n12, n13, n14, n15⟩ := fd
      have e2 : (some (n1, n2, n3, n4, n5, n6, n7.map (·.1), n15) : XnW) = (some ("__init__", d.qual, d.params, .stmts d.body, d.scope, mainGlobals, ["__class__"], builtinsNs) : XnW) := e
      simp only [Option.some.injEq, Prod.mk.injEq] at e2
      obtain ⟨h1, h2, h3, h4, h5, h6, h7, h8⟩ := e2
      subst h1 h2 h3 h4 h5 h6 h8
      obtain ⟨k1, ka⟩ := ba c1
      obtain ⟨k2, kb⟩ := ba ka
      obtain ⟨k3, kc⟩ := ba kb
      obtain ⟨k4, k5⟩ := ba kc
      clear ka kb kc c1 e
      dsimp only at k1 k2 k3 k4 k5
      split at k2
      · rename_i y cc
        have ey : y = "__class__" := by simpa using h7
        subst ey
        split at k2
        · rename_i cl cld C csl hc
          cases (of_decide_eq_true k2 : C = He.ga K d.D)
          split at k3
          · rename_i cda
            split at k3
            · rename_i ccl cdd vs0 ccs hco
              obtain ⟨tf, hv⟩ := strAt_ok k3
              split at k4
              · split at k5
                · obtain ⟨cdD, hcd⟩ := Option.isSome_iff_exists.mp c3
                  exact ⟨oc, od, n10, n11, n12, cda, n14, cc, osl, ccl, cdd, vs0, ccs, tf, cl, cld, csl, cdD, q, k1, hco, hv, hc, hcd, He.eqO_ok c4⟩
                · cases k5
              · cases k4
            · cases k3
          · cases k3
        · cases k2
      · cases k2
    | _ => cases c1
structure ExmK (K : PySem.W.Frag) (h : Str) (xs : List Str) (cs : List Nat) : Prop where
  ex : ∀ (c : Nat) (x : Str), xs[c]? = some x → PySem.W.exmOne K (.ref (He.ga K x)) (.ref (He.ga K h)) = some (cs.contains c) ∧ XfC K (He.ga K x) ∧ PySem.W.findIn K (.ref (He.ga K x)) "value" = some none
theorem exmB_ok {K : PySem.W.Frag} {h : Str} {xs : List Str} {cs : List Nat} (q : exmB K h xs cs = true) : ExmK K h xs cs := ⟨fun c x hx => by
  have hm : (x, c) ∈ xs.zipIdx := List.mem_zipIdx_iff_getElem?.mpr hx
  obtain ⟨h1, h2⟩ := ba (List.all_eq_true.mp q (x, c) hm)
  obtain ⟨h3, h4⟩ := ba h2
  exact ⟨of_decide_eq_true h1, xfB_ok h3, He.eqO_ok h4⟩⟩
structure BxC (K : PySem.W.Frag) (C : Addr) : Prop where
  exi : PySem.W.excIn K C reTail "RuntimeError.__new__" = true
  sub : PySem.W.subIn K (.ref C) (.type "BaseException") = some true
  typ : PySem.W.typeIn K (.ref C) = some (.type "type")
  kee : PySem.W.keepIn K (.ref C) = true
theorem bxB_ok {K : PySem.W.Frag} {C : Addr} (h : bxB K C = true) : BxC K C := by
  obtain ⟨h1, h⟩ := ba h
  obtain ⟨h2, h⟩ := ba h
  obtain ⟨h3, h4⟩ := ba h
  exact ⟨h1, of_decide_eq_true h2, of_decide_eq_true h3, h4⟩
def Fb.P (K : PySem.W.Frag) (w : World) (mg : Str → Option Value) : Fb → Prop
  | .glo x => mg x = some (.ref (He.ga K x))
  | .free x => mg x = none
  | .con x t => ∃ v u, mg x = some u ∧ RelV v u ∧ ∀ H av, Fz K H av t v
  | .cls c => Cls K (He.ga K c)
  | .noat c f => NoAttr K (He.ga K c) f
  | .meth c m => Meth K (He.ga K c) m (He.ma K (He.ga K c) m)
  | .mkr c => L2.Mk K (He.ga K c) (He.ma K (He.ga K c) "__init__")
  | .stat c m => Stat K (He.ga K c) m (He.ma K (He.ga K c) m) (He5.wf K (He.ga K c) "staticmethod" m)
  | .prop c m => PropOf K (He.ga K c) m (He.ma K (He.ga K c) m) (He5.wf K (He.ga K c) "property" m)
  | .isc c cs => IsO K c cs
  | .op c m => PySem.W.findIn K (.ref (He.ga K c)) m = some (some (.ref (He.ma K (He.ga K c) m))) ∧ PySem.W.fnIn K (He.ma K (He.ga K c) m) = true ∧ PySem.W.isFn K (.ref (He.ma K (He.ga K c) m)) = true
  | .slf c => PySem.W.selfFirst K (He.ga K c) = true
  | .ne c => PySem.W.findIn K (.ref (He.ga K c)) "__ne__" = some (some (.builtin "object.__ne__")) ∧ PySem.W.subIn K (.ref (He.ga K c)) (.type "object") = some true
  | .menu x ks ts => mg x = some (.ref (He.ga K x)) ∧ KMn K w (He.ga K x) ks ts
  | .exc x D => mg x = some (.ref (He.ga K x)) ∧ XcK K x D
  | .exm h xs cs => mg h = some (.ref (He.ga K h)) ∧ ExmK K h xs cs
  | .isx z xs => mg z = some (.ref (He.ga K z)) ∧ ∀ y ∈ xs, PySem.W.kitOne K (.ref (He.ga K y)) (.ref (He.ga K z)) = some true
  | .isb z xs => ∀ y ∈ xs, PySem.W.kitOne K (.ref (He.ga K y)) (.type z) = some true
  | .exb x => mg x = some (.ref (He.ga K x)) ∧ BxC K (He.ga K x)
  | .isn c => IsC K c ∧ ∀ y : Ty, y ≠ .non → PySem.W.kitOne K (.ref (He.ga K c)) (.type y.nm) = some false
theorem iscB_ok {K : PySem.W.Frag} {c : Str} (h : iscB K c = true) : IsC K c := by
  obtain ⟨h1, h⟩ := ba h
  obtain ⟨h2, h⟩ := ba h
  obtain ⟨h3, h⟩ := ba h
  obtain ⟨h4, h5⟩ := ba h
  exact ⟨He.cls_ok h1, He.eqO_ok h2, He.eqO_ok h3, of_decide_eq_true h4, of_decide_eq_true h5⟩
section
variable {K : PySem.W.Frag} {h : Heap} {w : World} {mg : Str → Option Value}
theorem Fb.sound (X : K.In h) (G : h.Ns mainGlobals mg) : ∀ f : Fb, f.ok K = true → (∀ x ks, f.tab = some (x, ks) → ∃ es n, KDict K w (He.ga K x) es n) → f.P K w mg
  | .glo x, c, _ => He.glo_ok X G c
  | .free x, c, _ => He.free_ok X G c
  | .con x t, c, _ => by
    have c2 : (match PySem.W.nsIn K mainGlobals x with
      | some (some u) => tB K t u
      | _ => false) = true := c
    cases e : PySem.W.nsIn K mainGlobals x with
    | none => rw [e] at c2; cases c2
    | some o =>
      rw [e] at c2
      cases o with
      | none => cases c2
      | some u =>
        obtain ⟨v, rv, fv⟩ := tB_ok t u c2
        exact ⟨v, u, PySem.W.mg_of X G e, rv, fv⟩
  | .cls c, h, _ => He.cls_ok h
  | .noat c f, h, _ => He.noat_ok h
  | .meth c m, h, _ => He.meth_ok h
  | .mkr c, h, _ => He.mkr_ok h
  | .stat c m, h, _ => by
    obtain ⟨h1, h⟩ := ba h
    obtain ⟨h2, h3⟩ := ba h
    obtain ⟨h4, h5⟩ := He5.wrapB_ok h3
    exact ⟨⟨_, ⟨h1, He.eqO_ok h2⟩, h4⟩, h5⟩
  | .prop c m, h, _ => by
    obtain ⟨h1, h⟩ := ba h
    obtain ⟨h2, h⟩ := ba h
    obtain ⟨h3, h4⟩ := ba h
    refine ⟨He.eqO_ok h1, He.eqO_ok h2, of_decide_eq_true h3, ?_⟩
    unfold He5.wf
    split at h4
    · rename_i f r e
      exact ⟨r, by rw [e]⟩
    · cases h4
  | .isc c cs, h, _ => by
    obtain ⟨h1, h2⟩ := ba h
    refine ⟨fun y => of_decide_eq_true (List.all_eq_true.mp h1 y (by cases y <;> simp [tys])), fun c' hc => ?_⟩
    obtain ⟨h3, h4⟩ := ba (List.all_eq_true.mp h2 c' hc)
    exact ⟨iscB_ok h3, of_decide_eq_true h4⟩
  | .op c m, h, _ => by
    obtain ⟨h1, h⟩ := ba h
    obtain ⟨h2, h3⟩ := ba h
    exact ⟨He.eqO_ok h1, h2, h3⟩
  | .slf c, h, _ => h
  | .ne c, h, _ => by
    obtain ⟨h1, h2⟩ := ba h
    exact ⟨He.eqO_ok h1, of_decide_eq_true h2⟩
  | .menu x ks ts, h, d => by
    obtain ⟨h1, h2⟩ := ba h
    exact ⟨He.glo_ok X G h1, menuB_ok h2 (d x ks rfl)⟩
  | .exc x D, h, _ => by
    obtain ⟨h1, h2⟩ := ba h
    exact ⟨He.glo_ok X G h1, xcB_ok h2⟩
  | .exm y xs cs, h, _ => by
    obtain ⟨h1, h2⟩ := ba h
    exact ⟨He.glo_ok X G h1, exmB_ok h2⟩
  | .isx z xs, h, _ => by
    obtain ⟨h1, h2⟩ := ba h
    exact ⟨He.glo_ok X G h1, fun y hy => of_decide_eq_true (List.all_eq_true.mp h2 y hy)⟩
  | .isb z xs, h, _ => fun y hy => of_decide_eq_true (List.all_eq_true.mp h y hy)
  | .exb x, h, _ => by
    obtain ⟨h1, h2⟩ := ba h
    exact ⟨He.glo_ok X G h1, bxB_ok h2⟩
  | .isn c, h, _ => by
    obtain ⟨h1, h2⟩ := ba h
    refine ⟨iscB_ok h1, fun y hy => ?_⟩
    rcases Bool.or_eq_true_iff.mp (List.all_eq_true.mp h2 y (by cases y <;> simp [tys])) with q | q
    · exact absurd (of_decide_eq_true q) hy
    · exact of_decide_eq_true q
end
def SaysX (fa : List Fb) (fn : List He5.DefA) (xd : List XD) (w : World) (K : PySem.W.Frag) : Prop := obsX fa fn xd K = valX fa fn xd w
def obsXG (n : Nat) (fa : List Fb) (fn : List He5.DefA) (xd : List XD) (g : Addr → Option Obj) : AlX := obsX fa fn xd (He.frG g (He5.asA g n))
def hookX (n : Nat) (fa : List Fb) (fn : List He5.DefA) (xd : List XD) : PySem.W.Hook where
  α := AlX
  obs := fun s => obsXG n fa fn xd s.heap.get?
  val := fun w => valX fa fn xd w
  says := fun w h => ∃ K : PySem.W.Frag, K.In h ∧ SaysX fa fn xd w K
  of := fun _ _ e => ⟨_, He.frG_in, e⟩
  keeps := fun _ _ _ ⟨K, hK, c⟩ k => ⟨K, PySem.W.Frag.In.keeps hK k, c⟩
section
variable {fa : List Fb} {fn : List He5.DefA} {xd : List XD} {K : PySem.W.Frag} {w : World} {h : Heap} {mg : Str → Option Value}
theorem SaysX.bools (c : SaysX fa fn xd w K) : (fa.all fun f => f.ok K) = true ∧ (fn.all fun d => d.ok K) = true ∧ (xd.all fun d => d.ok K) = true := by
  obtain ⟨h1, h2⟩ := ba (show ((fa.all fun f => f.ok K) && ((fn.all fun d => d.ok K) && xd.all fun d => d.ok K)) = true from congrArg (fun z : AlX => z.1) c)
  exact ⟨h1, ba h2⟩
theorem SaysX.fact (c : SaysX fa fn xd w K) (X : K.In h) (G : h.Ns mainGlobals mg) (i : Nat) (f : Fb) (e : fa[i]? = some f) : f.P K w mg := by
  have c1 := c.bools.1
  have hm := List.mem_of_getElem? e
  refine Fb.sound X G f (List.all_eq_true.mp c1 f hm) fun x ks ht => ?_
  have e2 : (tabsOf fa).map (fun t => He.dicW K (He.ga K t.1)) = (tabsOf fa).map fun t => some (He.keysIn w.params t.2) := congrArg (fun z : AlX => z.2.2.1) c
  have hm2 : (x, ks) ∈ tabsOf fa := List.mem_filterMap.mpr ⟨f, hm, ht⟩
  have := List.map_inj_left.mp e2 (x, ks) hm2
  exact He.dicW_ok this
theorem SaysX.def_ (c : SaysX fa fn xd w K) (i : Nat) {d : He5.DefA} (e : fn[i]? = some d := by rfl) : ∃ fd, L2.FunD K d.name d.qual d.params d.body d.scope (d.dvs K) (d.kws K) (d.at_ K) fd := by
  have c2 := c.bools.2.1
  have e1 : fn.map (fun d => He5.fnA K (d.at_ K)) = fn.map He5.DefA.val := congrArg (fun z : AlX => z.2.1) c
  exact He5.DefA.funD (List.map_inj_left.mp e1 d (List.mem_of_getElem? e)) (List.all_eq_true.mp c2 d (List.mem_of_getElem? e))
theorem SaysX.xdef (c : SaysX fa fn xd w K) (i : Nat) {d : XD} (e : xd[i]? = some d := by rfl) : ∃ oc od doc pm an cda ct cc osl ccl cdd vs0 ccs tf cl cld csl cdD, XdK K d oc od doc pm an cda ct cc osl ccl cdd vs0 ccs tf cl cld csl cdD := by
  have c2 := c.bools.2.2
  have e1 : xd.map (fun d => xnW K d.D) = xd.map XD.val := congrArg (fun z : AlX => z.2.2.2) c
  exact XD.sound (List.map_inj_left.mp e1 d (List.mem_of_getElem? e)) (List.all_eq_true.mp c2 d (List.mem_of_getElem? e))
end
end Ev
namespace Ev
open PySem L2
variable [WW]
def FnKw (P : Program) (w : World) (K : PySem.W.Frag) (mg : Str → Option Value) (base : Heap) (CX : CXT) (k : Nat) (f : Addr) (ks : List Str) (sp : Sp) : Prop :=
  ∀ (A : Around) (outer : List PySem.Env) (s : Shared) (H : Hp) (us ws : List Value) (vs zs : List V) (Q : VK) (E : XK), Room k A → Env0 P w K mg base A outer s H → Vals vs us → Vals zs ws → zs.length = ks.length → us.length = 1 →
    (∀ p, H p = none → sp (vs ++ [V.ref p]) (upd H p (.dK ((inrs ks).zip zs))) Q E) → codeAny (model P w) A (.call (.ref f) ⟨us, ks.zip ws⟩) (L2.CR CX outer P w H s Q E) s
section
variable {P : Program} {w : World} {K : PySem.W.Frag} {mg : Str → Option Value} {base : Heap} {CX : CXT} {k : Nat} {f : Addr} {name qual : Str} {params : Arguments} {body : List Stmt} {scope : Scope} {dV kV doc pm cdv ct oc : Value} {an od : Option Addr} {osl : Array (Option Value)} {N : List Str} {sp : Sp} {p1 pv : Str} {ks : List Str}
structure KwS (P : Program) (w : World) (K : PySem.W.Frag) (mg : Str → Option Value) (base : Heap) (xr : XR) (C : Calls) (d : Nat) (f : Nat) (fa : Addr) (ks : List Str) : Prop where
  fn : FnKw P w K mg base (L2.CX P w) d fa ks (spC K xr C f [] 2)
  kp : PySem.W.keepIn K (.ref fa) = true
end
end Ev
namespace Ev
open PySem L2
variable [WW]
abbrev bareX : Str := "NothingToUndo"
def XDc (H : Hp) (d : Option Addr) (v : V) (x : Str) : Prop := if x = bareX then d = none else ∃ dd, d = some dd ∧ H dd = some (.xd [("value", v)])
theorem XDc.of {H : Hp} {dd : Addr} {v : V} {x : Str} (n : (x == bareX) = false) (e : H dd = some (.xd [("value", v)])) : XDc H (some dd) v x := by
  unfold XDc
  rw [if_neg (by simpa using n)]
  exact ⟨dd, rfl, e⟩
theorem XDc.at_ {H : Hp} {d : Option Addr} {v : V} {x : Str} (n : x ≠ bareX) (e : XDc H d v x) : ∃ dd, d = some dd ∧ H dd = some (.xd [("value", v)]) := by
  unfold XDc at e
  rw [if_neg n] at e
  exact e
def xrM (K : PySem.W.Frag) (xs : List Str) : XR := fun c t H av cls d => ∃ x dd v, xs[c]? = some x ∧ cls = .ref (He.ga K x) ∧ d = dd ∧ XDc H dd v x ∧ Fz K H av t v
theorem xmM (K : PySem.W.Frag) (xs : List Str) : ∀ c t H (av av' : Addr → Prop) cls d, (∀ b, av' b → av b) → xrM K xs c t H av cls d → xrM K xs c t H av' cls d :=
  fun c t H av av' cls d h ⟨x, dd, v, e, ec, ed, eh, fz⟩ => ⟨x, dd, v, e, ec, ed, eh, Fz.mono (fun _ _ q _ => q) (fun _ _ q => q) (fun b z => .inl (h b z)) t v fz⟩
structure XcS (P : Program) (w : World) (K : PySem.W.Frag) (mg : Str → Option Value) (base : Heap) (x : Str) : Prop where
  ex : x ≠ bareX → ∃ (D fI : Addr) (fd : FuncData), SupC K D (He.ga K x) ∧ PySem.W.findIn K (.ref (He.ga K x)) "__init__" = some (some (.ref fI)) ∧ PySem.W.typeIn K (.ref fI) = some (.type "function") ∧
    L2.FnOk P w K mg base (L2.CX P w) 1 fI fd ["self", "value"] (spSup K D) ∧ Binds K fd ["self", "value"] [] ∧ mg x = some (.ref (He.ga K x))
  br : x = bareX → mg x = some (.ref (He.ga K x)) ∧ BxC K (He.ga K x)
def cstG (cs : List (Str × T)) (i : Nat) : Option T := (cs[i]?).map (·.2)
structure Ct (X : Cx) (g : Cfg) (d : Nat) (tx : Tx) : Prop where
  calm : X.calm = true
  nd : X.N.Nodup
  un : X.A.units + 64 < cLine
  tk : Takes X g.W
  room : Room (4 * d + 2) X.A
  fn : ∀ (i : Nat) (a : Ad) (io : List Nat) (n : Nat), tx.fs[i]? = some (some (a, io, n)) → FnA X.prog X.w X.K X.mg X.base g.xr g.C (4 * d + 1) i (a.at_ X.K) io n
  gl : ∀ (i : Nat) (x : Str) (io : List Nat) (n : Nat), tx.fs[i]? = some (some (.glo x, io, n)) → X.mg x = some (.ref (He.ga X.K x))
  bl : ∀ x, tx.bl.contains x = true → X.mg x = none
  fc : ∀ (i : Nat) (f : Fb), tx.fa[i]? = some f → f.P X.K X.w X.mg
  gc : g.G = cstG tx.cs
  mks : ∀ (i : Nat) (m : MkI), tx.mks[i]? = some m → MkC X.prog X.w X.K X.mg X.base g.xr g.C (4 * d + 1) m.f m.c m.np m.ks m.ar m.ds
  ms : ∀ (i : Nat) (c : Str) (f : Nat), tx.ms[i]? = some (c, f) → MkS X.prog X.w X.K X.mg X.base g.xr g.C (4 * d + 1) f c
  xq : g.xr = xrM X.K tx.xs
  xs : ∀ (c : Nat) (x : Str), tx.xs[c]? = some x → XcS X.prog X.w X.K X.mg X.base x
  kw : ∀ (j f : Nat) (a : Ad) (ks : List Str), tx.kw[j]? = some (f, a, ks) → KwS X.prog X.w X.K X.mg X.base g.xr g.C (4 * d + 1) f (a.at_ X.K) ks
  cw : ∀ (i : Nat) (m : CwI), tx.cw[i]? = some m → CwC X.prog X.w X.K X.mg X.base g.xr g.C (4 * d + 1) m.f m.x m.np m.ks m.ar m.ds
theorem Ct.blk {X : Cx} {g : Cfg} {d : Nat} {tx : Tx} (c : Ct X g d tx) {s : Shared} {H : Hp} {scope : Scope} {env : PySem.Env} {fp : List Addr} : Ct (X.blk s H scope env fp) g.mute d tx :=
  ⟨c.calm, c.nd, c.un, takes0, c.room, c.fn, c.gl, c.bl, c.fc, c.gc, c.mks, c.ms, c.xq, c.xs, c.kw, c.cw⟩
theorem Ct.fnC {X : Cx} {g : Cfg} {d : Nat} {tx : Tx} (c : Ct X g d tx) {i : Nat} {x : Str} {io : List Nat} {n : Nat} (h : tx.fs[i]? = some (some (.glo x, io, n))) : FnC X.prog X.w X.K X.mg X.base g.xr g.C (4 * d + 1) i x io n [] := by
  obtain ⟨fd, ps, F, hk, hb⟩ := (c.fn i _ io n h).ex
  exact ⟨_, fd, ps, [], F, c.gl i x io n h, hk, hb, .nil⟩
theorem Ct.gG {X : Cx} {g : Cfg} {d : Nat} {tx : Tx} (c : Ct X g d tx) {i : Nat} {x : Str} {t : T} (h : tx.cs[i]? = some (x, t)) : g.G i = some t := by
  rw [c.gc]
  show (tx.cs[i]?).map _ = _
  rw [h]
  rfl
section
variable {X : Cx} {g : Cfg} {d : Nat} {tx : Tx} {pos p0 p1 p2 p3 apos cpos : Pos} {a b c o : Expr} {es rest : List Expr} {ia ib ic : E} {ja jb : Tt} {is js : Es} {as : As} {x y z nm m : Str} {k : Nat}
theorem e_rd (i : Nat) (hN : X.N[i]? = some x := by rfl) (hv : visB X.env.scope x = true := by rfl) (hx : okName x = true := by rfl) : PE X (.Name x pos) (tE X.K g (.rd i)) := snd_rd hN (vis_of hv) (okName_of hx).1 (okName_of hx).2.1
theorem e_rdx (cx : Ct X g d tx) (i : Nat) (hb : PE X b (tE X.K g ib)) (hN : X.N[i]? = some x := by rfl) (hv : visB X.env.scope x = true := by rfl) (hx : okName x = true := by rfl) (hs : PlainIx b := by exact fun _ _ => rfl) : PE X (.Subscript (.Name x p0) b pos) (tE X.K g (.rdx i ib)) :=
  snd_rdx cx.un hN (vis_of hv) (okName_of hx).1 (okName_of hx).2.1 hb hs
theorem e_cst (cx : Ct X g d tx) (i j : Nat) {t : T} (h : tx.cs[i]? = some (x, t) := by rfl) (hf : tx.fa[j]? = some (.con x t) := by rfl) (hg : glB X.env x = true := by rfl) (hx : okName x = true := by rfl) : PE X (.Name x pos) (tE X.K g (.cst i)) := by
  obtain ⟨v, u, h1, h2, h3⟩ := cx.fc j _ hf
  exact snd_cst (cx.gG h) h3 (gl_of hg) h1 h2 (okName_of hx).1
theorem e_cmp {o : CmpOp} (cx : Ct X g d tx) (ha : PE X a (tE X.K g ia)) (hb : PE X b (tE X.K g ib)) (hm : behindInMarks o b = false := by rfl) : PE X (.Compare a [o] [b] pos) (tE X.K g (.cmp o ia ib)) := snd_cmp cx.un ha hb hm
theorem e_chn {o o' : CmpOp} (cx : Ct X g d tx) (ha : PE X a (tE X.K g ia)) (hb : PE X b (tE X.K g ib)) (hc : PE X c (tE X.K g ic)) (hm : lastMarks [o, o'] [b, c] = false := by rfl) : PE X (.Compare a [o, o'] [b, c] pos) (tE X.K g (.chn o o' ia ib ic)) := snd_chn cx.un ha hb hc hm
theorem e_ix (cx : Ct X g d tx) (ha : PE X a (tE X.K g ia)) (hb : PE X b (tE X.K g ib)) (hs : PlainIx b := by exact fun _ _ => rfl) : PE X (.Subscript a b pos) (tE X.K g (.ix ia ib)) := snd_ix cx.un ha hb hs
theorem e_cons (he : PE X a (tE X.K g ia)) (hs : PA X es (tEs X.K g is)) (hst : starEach (a :: es) X.env = (false, eval a X.env) :: starEach es X.env := by rfl) : PA X (a :: es) (tEs X.K g (.cons ia is)) := snd_cons he hs hst
theorem e_nil : PA X [] (tEs X.K g .nil) := pa_nil'
section
variable (cx : Ct X g d tx) (hs : PA X (a :: es) (tEs X.K g is)) (hg : glB X.env x = true) (hm : tx.bl.contains x = true) (hx : okName x = true) (he : starEach (a :: es) X.env = (false, eval a X.env) :: starEach es X.env) (hpl : (backTo pos (starEach es X.env)).any (·.1) = false)
include cx hs hg hm hx he hpl
theorem bv {id : String} {f : List T → Option W} {i : E} (hc : CallR X (.builtin id) (rPL X.K f)) (hv : bootBuiltins x = some (.builtin id)) (ev : ∀ env, evE g.G g.C i env = (evEs g.G g.C is env).bind fun ws env1 => R.of (f (fzs ws)) env1) : PE X (.Call (.Name x p0) (a :: es) [] pos) (tE X.K g i) :=
  snd_callv hc (gl_of hg) (cx.bl x hm) hv hs (okName_of hx).2.2 (okName_of hx).1 he hpl ev
theorem bt {id : String} {f : List T → Option W} {i : E} (hc : CallR X (.type id) (rPL X.K f)) (hv : bootBuiltins x = some (.type id)) (ev : ∀ env, evE g.G g.C i env = (evEs g.G g.C is env).bind fun ws env1 => R.of (f (fzs ws)) env1) : PE X (.Call (.Name x p0) (a :: es) [] pos) (tE X.K g i) :=
  snd_callt hc (gl_of hg) (cx.bl x hm) hv hs (okName_of hx).2.2 (okName_of hx).1 he hpl ev
end
theorem e_len (cx : Ct X g d tx) (hs : PA X (a :: es) (tEs X.K g is)) (hg : glB X.env "len" = true := by rfl) (hm : tx.bl.contains "len" = true := by rfl) (he : starEach (a :: es) X.env = (false, eval a X.env) :: starEach es X.env := by rfl) (hpl : (backTo pos (starEach es X.env)).any (·.1) = false := by rfl) : PE X (.Call (.Name "len" p0) (a :: es) [] pos) (tE X.K g (.bi .len is)) :=
  bv cx hs hg hm (by decide) he hpl bi_len (by decide +kernel) fun _ => rfl
theorem e_sorted (cx : Ct X g d tx) (hs : PA X (a :: es) (tEs X.K g is)) (hg : glB X.env "sorted" = true := by rfl) (hm : tx.bl.contains "sorted" = true := by rfl) (he : starEach (a :: es) X.env = (false, eval a X.env) :: starEach es X.env := by rfl) (hpl : (backTo pos (starEach es X.env)).any (·.1) = false := by rfl) : PE X (.Call (.Name "sorted" p0) (a :: es) [] pos) (tE X.K g (.bi .sorted is)) :=
  bv cx hs hg hm (by decide) he hpl bi_sorted (by decide +kernel) fun _ => rfl
theorem e_min (cx : Ct X g d tx) (hs : PA X (a :: es) (tEs X.K g is)) (hg : glB X.env "min" = true := by rfl) (hm : tx.bl.contains "min" = true := by rfl) (he : starEach (a :: es) X.env = (false, eval a X.env) :: starEach es X.env := by rfl) (hpl : (backTo pos (starEach es X.env)).any (·.1) = false := by rfl) : PE X (.Call (.Name "min" p0) (a :: es) [] pos) (tE X.K g (.bi .min is)) :=
  bv cx hs hg hm (by decide) he hpl (bi_min cx.calm) (by decide +kernel) fun _ => rfl
theorem e_max (cx : Ct X g d tx) (hs : PA X (a :: es) (tEs X.K g is)) (hg : glB X.env "max" = true := by rfl) (hm : tx.bl.contains "max" = true := by rfl) (he : starEach (a :: es) X.env = (false, eval a X.env) :: starEach es X.env := by rfl) (hpl : (backTo pos (starEach es X.env)).any (·.1) = false := by rfl) : PE X (.Call (.Name "max" p0) (a :: es) [] pos) (tE X.K g (.bi .max is)) :=
  bv cx hs hg hm (by decide) he hpl (bi_max cx.calm) (by decide +kernel) fun _ => rfl
theorem e_sum (cx : Ct X g d tx) (hs : PA X (a :: es) (tEs X.K g is)) (hg : glB X.env "sum" = true := by rfl) (hm : tx.bl.contains "sum" = true := by rfl) (he : starEach (a :: es) X.env = (false, eval a X.env) :: starEach es X.env := by rfl) (hpl : (backTo pos (starEach es X.env)).any (·.1) = false := by rfl) : PE X (.Call (.Name "sum" p0) (a :: es) [] pos) (tE X.K g (.bi .sum is)) :=
  bv cx hs hg hm (by decide) he hpl (bi_sum cx.calm) (by decide +kernel) fun _ => rfl
theorem e_all (cx : Ct X g d tx) (hs : PA X (a :: es) (tEs X.K g is)) (hg : glB X.env "all" = true := by rfl) (hm : tx.bl.contains "all" = true := by rfl) (he : starEach (a :: es) X.env = (false, eval a X.env) :: starEach es X.env := by rfl) (hpl : (backTo pos (starEach es X.env)).any (·.1) = false := by rfl) : PE X (.Call (.Name "all" p0) (a :: es) [] pos) (tE X.K g (.bi .all is)) :=
  bv cx hs hg hm (by decide) he hpl (bi_all cx.calm) (by decide +kernel) fun _ => rfl
theorem e_toint (cx : Ct X g d tx) (hs : PA X (a :: es) (tEs X.K g is)) (hg : glB X.env "int" = true := by rfl) (hm : tx.bl.contains "int" = true := by rfl) (he : starEach (a :: es) X.env = (false, eval a X.env) :: starEach es X.env := by rfl) (hpl : (backTo pos (starEach es X.env)).any (·.1) = false := by rfl) : PE X (.Call (.Name "int" p0) (a :: es) [] pos) (tE X.K g (.bi .int is)) :=
  bt cx hs hg hm (by decide) he hpl bi_int (by decide +kernel) fun _ => rfl
theorem e_isi (cx : Ct X g d tx) (y : Ty) (ha : PE X a (tE X.K g ia)) (hy : y ≠ .non := by decide) (hg : glB X.env "isinstance" = true := by rfl) (hm : tx.bl.contains "isinstance" = true := by rfl) (hgx : glB X.env x = true := by rfl) (hmx : tx.bl.contains x = true := by rfl) (hbx : bootBuiltins x = some (.type y.nm) := by decide +kernel) (hx : okName x = true := by rfl)
    (hs : starEach [a, .Name x p1] X.env = (false, eval a X.env) :: starEach [.Name x p1] X.env := by rfl) : PE X (.Call (.Name "isinstance" p0) [a, .Name x p1] [] pos) (tE X.K g (.isi ia y)) :=
  snd_isi hy (gl_of hg) (cx.bl _ hm) (gl_of hgx) (cx.bl _ hmx) hbx (okName_of hx).1 (okName_of hx).2.2 ha hs
theorem a_nil : PA X [] (tA X.K g .nil) := sna_nil
theorem a_cons (he : PE X a (tE X.K g ia)) (hs : PA X es (tA X.K g as)) (hst : starEach (a :: es) X.env = (false, eval a X.env) :: starEach es X.env := by rfl) : PA X (a :: es) (tA X.K g (.cons ia as)) := sna_cons he hs hst
theorem a_io (i : Nat) (hs : PA X es (tA X.K g as)) (hN : X.N[i]? = some x := by rfl) (hv : visB X.env.scope x = true := by rfl) (hx : okName x = true := by rfl)
    (hst : starEach (.Name x pos :: es) X.env = (false, eval (.Name x pos) X.env) :: starEach es X.env := by rfl) : PA X (.Name x pos :: es) (tA X.K g (.io i as)) := sna_io hN (vis_of hv) (okName_of hx).1 (okName_of hx).2.1 hs hst
theorem vsAt_len {σ : St} : ∀ (as : As) (vs : List V), VsAt σ as vs → vs.length = as.len
  | .nil, vs, h => by rw [show vs = [] from h]; rfl
  | .cons _ as, vs, h => by
    obtain ⟨v, r, rfl, h⟩ := h
    rw [List.length_cons, vsAt_len as r h]
    rfl
  | .io _ as, vs, h => by
    obtain ⟨v, r, rfl, _, h⟩ := h
    rw [List.length_cons, vsAt_len as r h]
    rfl
  | .own _ as, vs, h => by
    obtain ⟨v, r, rfl, _, h⟩ := h
    rw [List.length_cons, vsAt_len as r h]
    rfl
  | .iol _ as, vs, h => by
    obtain ⟨v, r, rfl, _, h⟩ := h
    rw [List.length_cons, vsAt_len as r h]
    rfl
theorem e_call (cx : Ct X g d tx) (f : Nat) {io : List Nat} {n : Nat} (ha : PA X (a :: es) (tA X.K g as)) (hf : tx.fs[f]? = some (some (.glo x, io, n)) := by rfl) (hio : ioPos 0 as = io := by rfl) (hn : Nat.beq as.len n = true := by rfl) (hl : Nat.beq as.len (es.length + 1) = true := by rfl) (hg : glB X.env x = true := by rfl) (hx : okName x = true := by rfl)
    (he : starEach (a :: es) X.env = (false, eval a X.env) :: starEach es X.env := by rfl) (hpl : (backTo pos (starEach es X.env)).any (·.1) = false := by rfl) : PE X (.Call (.Name x p0) (a :: es) [] pos) (tE X.K g (.call f as [])) :=
  snd_call (cx.fnC hf) (cx.room.mono (Nat.le_succ _)) cx.tk (gl_of hg) hio (fun _ _ => rfl) ((Nat.eq_of_beq_eq_true hl).symm.trans (Nat.eq_of_beq_eq_true hn)) ha (fun vs σ h => (vsAt_len as vs h).trans (Nat.eq_of_beq_eq_true hl)) (okName_of hx).1 he hpl
theorem t_v (ha : PE X a (tE X.K g ia)) (h : plainT a = true := by rfl) : PT X a (tT X.K g (.v ia)) := snt_v ha h
theorem t_w {a : Expr} (h : PW X a (tT X.K g ja)) : PT X a (tT X.K g ja) := h.pt
theorem ts_nil : PTs X [] (tTs X.K g .nil) := ⟨fun pins s σ H Q I ⟨Rt, env, A, rl, p⟩ => pts_nil.run pins s σ H Q I (p true H A [] rl.sx ⟨rfl, rfl⟩)⟩
theorem ts_one (h : PT X a (tT X.K g ja)) : PTs X [a] (tTs X.K g (.cons ja .nil)) := ⟨fun pins s σ H Q I ⟨Rt, env, A, rl, p⟩ => (pts_one h).run pins s σ H Q I (by
  refine ⟨Rt, env, A, rl, ?_⟩
  have p' : Post X.K g PBl Rt σ H A ((evT g.G g.C ja env).bind fun k env1 => (match k with | true => .ok true env1 | false => .ok false env1)) Q := p
  cases e : evT g.G g.C ja env with
  | no => rw [e] at p'; exact p'
  | exc c t e1 => rw [e] at p'; exact p'
  | ok b e1 =>
    rw [e] at p'
    cases b with
    | true => exact p'
    | false => exact p')⟩
variable {tg : Expr}
theorem i_rng1 (cx : Ct X g d tx) (ha : PE X a (tE X.K g ia)) (hg : glB X.env "range" = true := by rfl) (hm : tx.bl.contains "range" = true := by rfl) (hs : starEach [a] X.env = [(false, eval a X.env)] := by rfl) : PI X tg (.Call (.Name "range" p0) [a] [] pos) (tI X.K g (.rng ia .no)) := sni_rng1 (gl_of hg) (cx.bl _ hm) ha hs
theorem i_rng2 (cx : Ct X g d tx) (ha : PE X a (tE X.K g ia)) (hb : PE X b (tE X.K g ib)) (hg : glB X.env "range" = true := by rfl) (hm : tx.bl.contains "range" = true := by rfl) (hs : starEach [a, b] X.env = [(false, eval a X.env), (false, eval b X.env)] := by rfl) (hs2 : starEach [b] X.env = [(false, eval b X.env)] := by rfl) :
    PI X tg (.Call (.Name "range" p0) [a, b] [] pos) (tI X.K g (.rng ia (.so ib))) := sni_rng2 (gl_of hg) (cx.bl _ hm) ha hb hs hs2
theorem g_var (cx : Ct X g d tx) (i : Nat) (hN : X.N[i]? = some x := by rfl) (hx : locB X.env.scope x = true := by rfl) (hf : (X.fn x || lclB X.env.scope x) = true := by rfl) : PG X (.Name x pos) (gT X.K (.var i)) :=
  pg_name cx.nd hN (loc_of hx) (by
    rcases Bool.or_eq_true _ _ ▸ hf with h | h
    · exact .inl h
    · exact .inr (lcl_of h))
theorem gs_nil : PGs X [] (gNames []) := pgs_nil
theorem gs_cons {is : List Nat} (cx : Ct X g d tx) (i : Nat) (h : PGs X es (gNames is)) (hN : X.N[i]? = some x := by rfl) (hx : locB X.env.scope x = true := by rfl) (hf : (X.fn x || lclB X.env.scope x) = true := by rfl) (hs : (assignEach (.Name x pos :: es) X.env).map (·.2) = assign (.Name x pos) X.env :: (assignEach es X.env).map (·.2) := by rfl) :
    PGs X (.Name x pos :: es) (gNames (i :: is)) := pgs_cons (pg_name cx.nd hN (loc_of hx) (by
    rcases Bool.or_eq_true _ _ ▸ hf with h | h
    · exact .inl h
    · exact .inr (lcl_of h))) h hs
theorem g_tup {is : List Nat} {k : Nat} (cx : Ct X g d tx) (h : PGs X es (gNames is)) (hn : (assignEach es X.env).length = is.length := by rfl) (hst : (assignEach es X.env).findIdx? (·.1) = none := by rfl) : PG X (.Tuple es k pos) (gT X.K (.tup is)) := pg_tup cx.calm h hn hst
theorem e_lc {elt iter : Expr} {ifs : List Expr} {scope : Scope} {own : List Nat} {tgi : Tg} {it : Ev.It} {cs' : Tts} {e : E} (cx : Ct X g d tx) (own' : List (Str × Nat))
    (hi : PI X tg iter (tI X.K g it))
    (hg : ∀ (s : Shared) (H : Hp) (C : Addr) (cl : List (Str × Addr)) (fp : List Addr), PG (X.blk s H scope (compEnvC scope cl C X.env) fp) tg (gT X.K tgi))
    (ht : ∀ (s : Shared) (H : Hp) (C : Addr) (cl : List (Str × Addr)) (fp : List Addr), PTs (X.blk s H scope (compEnvC scope cl C X.env) fp) ifs (tTs X.K g.mute cs'))
    (he : ∀ (s : Shared) (H : Hp) (C : Addr) (cl : List (Str × Addr)) (fp : List Addr), PE (X.blk s H scope (compEnvC scope cl C X.env) fp) elt (tE X.K g.mute e))
    (eo : own'.map (·.2) = own := by rfl) (ok : blkB X.N X.env.scope scope own' = true := by rfl) (hlen : allLt (tgs tgi) X.N.length = true := by rfl) (hs : ∀ x, foldedSetIterable iter X.env x = pure x := by exact fun _ => rfl) :
    PE X (.ListComp elt [⟨tg, iter, ifs, 0⟩] scope pos) (tE X.K g (.lc own tgi it cs' e)) := snd_lc eo cx.calm cx.nd hi (blk_of ok) (allLt_of hlen) hg ht he hs
theorem z_sc {elt iter : Expr} {ifs : List Expr} {scope : Scope} {own : List Nat} {tgi : Tg} {it : Ev.It} {cs' : Tts} {e : E} (cx : Ct X g d tx) (own' : List (Str × Nat))
    (hi : PI X tg iter (tI X.K g it))
    (hg : ∀ (s : Shared) (H : Hp) (C : Addr) (cl : List (Str × Addr)) (fp : List Addr), PG (X.blk s H scope (compEnvC scope cl C X.env) fp) tg (gT X.K tgi))
    (ht : ∀ (s : Shared) (H : Hp) (C : Addr) (cl : List (Str × Addr)) (fp : List Addr), PTs (X.blk s H scope (compEnvC scope cl C X.env) fp) ifs (tTs X.K g.mute cs'))
    (he : ∀ (s : Shared) (H : Hp) (C : Addr) (cl : List (Str × Addr)) (fp : List Addr), PE (X.blk s H scope (compEnvC scope cl C X.env) fp) elt (tE X.K g.mute e))
    (eo : own'.map (·.2) = own := by rfl) (ok : blkB X.N X.env.scope scope own' = true := by rfl) (hlen : allLt (tgs tgi) X.N.length = true := by rfl) (hs : ∀ x, foldedSetIterable iter X.env x = pure x := by exact fun _ => rfl) :
    PE X (.SetComp elt [⟨tg, iter, ifs, 0⟩] scope pos) (tZ X.K X.w g (.sc own tgi it cs' e)) := snz_sc eo cx.calm cx.nd hi (blk_of ok) (allLt_of hlen) hg ht he hs
variable {zz : Se}
theorem e_lenS (cx : Ct X g d tx) (ha : PE X a (tZ X.K X.w g zz)) (hg : glB X.env "len" = true := by rfl) (hm : tx.bl.contains "len" = true := by rfl) (hs : starEach [a] X.env = (false, eval a X.env) :: starEach [] X.env := by rfl) : PE X (.Call (.Name "len" p0) [a] [] pos) (tE X.K g (.lenS zz)) :=
  snd_lenS rfl (gl_of hg) (cx.bl _ hm) ha hs
theorem e_srtS (cx : Ct X g d tx) (ha : PE X a (tZ X.K X.w g zz)) (hg : glB X.env "sorted" = true := by rfl) (hm : tx.bl.contains "sorted" = true := by rfl) (hs : starEach [a] X.env = (false, eval a X.env) :: starEach [] X.env := by rfl) : PE X (.Call (.Name "sorted" p0) [a] [] pos) (tE X.K g (.srtS zz)) :=
  snd_srtS rfl cx.calm (gl_of hg) (cx.bl _ hm) ha hs
theorem e_lrng1 (cx : Ct X g d tx) (ha : PE X a (tE X.K g ia)) (hgl : glB X.env "list" = true := by rfl) (hml : tx.bl.contains "list" = true := by rfl) (hgr : glB X.env "range" = true := by rfl) (hmr : tx.bl.contains "range" = true := by rfl) (hs : starEach [a] X.env = (false, eval a X.env) :: starEach [] X.env := by rfl) :
    PE X (.Call (.Name "list" p1) [.Call (.Name "range" p2) [a] [] p0] [] pos) (tE X.K g (.lrng ia .no)) := snd_lrng1 cx.calm (gl_of hgl) (cx.bl _ hml) (gl_of hgr) (cx.bl _ hmr) ha hs
theorem e_lrng2 (cx : Ct X g d tx) (ha : PE X a (tE X.K g ia)) (hb : PE X b (tE X.K g ib)) (hgl : glB X.env "list" = true := by rfl) (hml : tx.bl.contains "list" = true := by rfl) (hgr : glB X.env "range" = true := by rfl) (hmr : tx.bl.contains "range" = true := by rfl) (hs : starEach [a, b] X.env = (false, eval a X.env) :: starEach [b] X.env := by rfl) (hs2 : starEach [b] X.env = (false, eval b X.env) :: starEach [] X.env := by rfl) :
    PE X (.Call (.Name "list" p1) [.Call (.Name "range" p2) [a, b] [] p0] [] pos) (tE X.K g (.lrng ia (.so ib))) := snd_lrng2 cx.calm (gl_of hgl) (cx.bl _ hml) (gl_of hgr) (cx.bl _ hmr) ha hb hs hs2
theorem e_lrng3 (cx : Ct X g d tx) (ha : PE X a (tE X.K g ia)) (hb : PE X b (tE X.K g ib)) (hc : PE X c (tE X.K g ic)) (hgl : glB X.env "list" = true := by rfl) (hml : tx.bl.contains "list" = true := by rfl) (hgr : glB X.env "range" = true := by rfl) (hmr : tx.bl.contains "range" = true := by rfl)
    (hs : starEach [a, b, c] X.env = (false, eval a X.env) :: starEach [b, c] X.env := by rfl) (hs2 : starEach [b, c] X.env = (false, eval b X.env) :: starEach [c] X.env := by rfl) (hs3 : starEach [c] X.env = (false, eval c X.env) :: starEach [] X.env := by rfl) (hpl : (backTo p0 (starEach [b, c] X.env)).any (·.1) = false := by rfl) :
    PE X (.Call (.Name "list" p1) [.Call (.Name "range" p2) [a, b, c] [] p0] [] pos) (tE X.K g (.lrng3 ia ib ic)) := snd_lrng3 cx.calm (gl_of hgl) (cx.bl _ hml) (gl_of hgr) (cx.bl _ hmr) ha hb hc hs hs2 hs3 hpl
variable {ks : List Nat} {s : S} {ss s1 s2 : Ss} {st : Stmt}
theorem s_asg (cx : Ct X g d tx) (i : Nat) (he : PE X a (tE X.K g ia)) (hi : X.N[i]? = some x := by rfl) (hx : locB X.env.scope x = true := by rfl) (hk : ks.contains i = false := by rfl) (hs : swapsWith a (some (.Name x p0)) pos.line X.env = pure false := by rfl) (hf : X.fn x = true := by rfl) :
    PS X (.Assign [.Name x p0] a pos) (tS X.K g ks (.asg i ia)) := sns_asg cx.nd hi (loc_of hx) he hk hs (.inl hf)
theorem s_asgLc {elt iter : Expr} {ifs : List Expr} {scope : Scope} {own : List Nat} {tgi : Tg} {it : Ev.It} {cs' : Tts} {e : E} (cx : Ct X g d tx) (i : Nat) (own' : List (Str × Nat))
    (hi : PI X tg iter (tI X.K g it))
    (hg : ∀ (s : Shared) (H : Hp) (C : Addr) (cl : List (Str × Addr)) (fp : List Addr), PG (X.blk s H scope (compEnvC scope cl C X.env) fp) tg (gT X.K tgi))
    (ht : ∀ (s : Shared) (H : Hp) (C : Addr) (cl : List (Str × Addr)) (fp : List Addr), PTs (X.blk s H scope (compEnvC scope cl C X.env) fp) ifs (tTs X.K g.mute cs'))
    (he : ∀ (s : Shared) (H : Hp) (C : Addr) (cl : List (Str × Addr)) (fp : List Addr), PE (X.blk s H scope (compEnvC scope cl C X.env) fp) elt (tE X.K g.mute e))
    (hN : X.N[i]? = some x := by rfl) (hyl : lclB X.env.scope x = true := by rfl) (hk : ks.contains i = false := by rfl) (hsw : swapsWith (.ListComp elt [⟨tg, iter, ifs, 0⟩] scope p1) (some (.Name x p0)) pos.line X.env = pure true := by rfl)
    (eo : own'.map (·.2) = own := by rfl) (ok : blkB X.N X.env.scope scope own' = true := by rfl) (hlen : allLt (tgs tgi) X.N.length = true := by rfl) (hs : ∀ x, foldedSetIterable iter X.env x = pure x := by exact fun _ => rfl) :
    PS X (.Assign [.Name x p0] (.ListComp elt [⟨tg, iter, ifs, 0⟩] scope p1) pos) (tS X.K g ks (.asg i (.lc own tgi it cs' e))) := sns_asgLc eo cx.calm cx.nd hN (lcl_of hyl) hk hsw hi (blk_of ok) (allLt_of hlen) hg ht he hs
theorem s_asgT {is : List Nat} (he : PE X a (tE X.K g ia)) (hg : PG X tg (gT X.K (.tup is))) (hlen : allLt is X.N.length = true := by rfl) (hk : noneIn ks is = true := by rfl) (hs : swapsWithSole [tg] a pos.line X.env = pure false := by rfl) (hw : swappedStores [tg] a X.env = pure none := by rfl)
    (h1 : (assignEach [tg] X.env).map (·.2) = [assign tg X.env] := by rfl) : PS X (.Assign [tg] a pos) (tS X.K g ks (.asgT is ia)) := sns_asgT he hg (allLt_of hlen) (noneIn_of hk) hs hw h1
theorem s_expr (he : PE X a (tE X.K g ia)) (hs : swapsWith a none pos.line X.env = pure false := by rfl) : PS X (.Expr a pos) (tS X.K g ks (.expr ia)) := sns_expr he hs
theorem s_retv (i : Nat) (hN : X.N[i]? = some x := by rfl) (hv : visB X.env.scope x = true := by rfl) (hx : okName x = true := by rfl) : PS X (.Return (some (.Name x p0)) pos) (tS X.K g ks (.retv i)) := sns_retv hN (vis_of hv) (okName_of hx).1 (okName_of hx).2.1
theorem s_app (i : Nat) (he : PE X a (tE X.K g ia)) (hN : X.N[i]? = some x := by rfl) (hv : visB X.env.scope x = true := by rfl) (hx : okName x = true := by rfl)
    (hbase : attributeBase (.Name x p0) "append" X.env (eval (.Name x p0) X.env) = eval (.Name x p0) X.env := by rfl)
    (hfew : ((backTo p2 (starEach [a] X.env)).all (fun x => !x.1) && (backToKw p2 (keywordEach [] X.env)).all (fun x => x.1.isSome)
      && decide ([a].length + ([] : List Keyword).length + (if ([] : List Keyword).isEmpty then 0 else 1) < 30)) = true := by rfl)
    (hline : (p1.endLine == p2.line) = true := by rfl) (hs : starEach [a] X.env = [(false, eval a X.env)] := by rfl)
    (hsw : swapsWith (.Call (.Attribute (.Name x p0) "append" p1) [a] [] p2) none pos.line X.env = pure false := by rfl) : PS X (.Expr (.Call (.Attribute (.Name x p0) "append" p1) [a] [] p2) pos) (tS X.K g ks (.app i ia)) :=
  sns_app hN (vis_of hv) (okName_of hx).1 (okName_of hx).2.1 he hbase hfew hline hs hsw
theorem s_setx (cx : Ct X g d tx) (i : Nat) (hb : PE X b (tE X.K g ib)) (he : PE X a (tE X.K g ia)) (hN : X.N[i]? = some x := by rfl) (hv : visB X.env.scope x = true := by rfl) (hx : okName x = true := by rfl)
    (hsb : ∀ v, assign (.Subscript (.Name x p0) b p1) X.env v = (do
      let ov ← holding [v] (eval (.Name x p0) X.env)
      let iv ← holding [v, ov] (eval b X.env)
      standAt p1
      holding [v, ov, iv] (setItem ov iv v)
      release [v, ov, iv] []) := by exact fun _ => rfl)
    (hs : swapsWithSole [.Subscript (.Name x p0) b p1] a pos.line X.env = pure false := by rfl) (hw : swappedStores [.Subscript (.Name x p0) b p1] a X.env = pure none := by rfl)
    (h1 : (assignEach [.Subscript (.Name x p0) b p1] X.env).map (·.2) = [assign (.Subscript (.Name x p0) b p1) X.env] := by rfl) : PS X (.Assign [.Subscript (.Name x p0) b p1] a pos) (tS X.K g ks (.setx i ib ia)) :=
  sns_setx cx.un hN (vis_of hv) (okName_of hx).1 (okName_of hx).2.1 hb he hsb hs hw h1
theorem s_for {iter : Expr} {body : List Stmt} {tgi : Tg} {it : Ev.It} {sb : Ss} (cx : Ct X g d tx) (hp : PassesOwn (model X.prog X.w) X.A X.env X.xe) (hi : PI X tg iter (tI X.K g it)) (hg : PG X tg (gT X.K tgi)) (hb : PSs X body (tSs X.K g ks sb))
    (hlen : allLt (tgs tgi) X.N.length = true := by rfl) (hk : noneIn ks (tgs tgi) = true := by rfl) (hs : ∀ x, foldedSetIterable iter X.env x = pure x := by exact fun _ => rfl) : PS X (.For tg iter body [] pos) (tS X.K g ks (.for_ tgi it sb)) :=
  sns_for hp cx.calm hi hg hb (allLt_of hlen) (noneIn_of hk) hs
theorem e_call0 (cx : Ct X g d tx) (f : Nat) (hf : tx.fs[f]? = some (some (.glo x, [], 0)) := by rfl) (hg : glB X.env x = true := by rfl) (hx : okName x = true := by rfl) : PE X (.Call (.Name x p0) [] [] pos) (tE X.K g (.call f .nil [])) :=
  snd_call0 (dvs := []) (cx.fnC hf) (cx.room.mono (Nat.le_succ _)) cx.tk (gl_of hg) rfl (okName_of hx).1
theorem k_nil : PK X [] (tEs X.K g .nil) := snk_nil
theorem k_cons {n1 : Option Str} {kpos : Pos} {e : Expr} {kws : List Keyword} (he : PE X e (tE X.K g ia)) (hs : PK X kws (tEs X.K g is)) : PK X (⟨n1, e, kpos⟩ :: kws) (tEs X.K g (.cons ia is)) := snk_cons he hs
theorem e_callw {kws : List Keyword} {m : CwI} (cx : Ct X g d tx) (i j : Nat) (ha : PA X (a :: es) (tEs X.K g is)) (hk : PK X kws (tEs X.K g js)) (hi : tx.cw[i]? = some m := by rfl) (h : tx.fa[j]? = some (.glo m.x) := by rfl) (hg : glB X.env m.x = true := by rfl) (hx : okName m.x = true := by rfl)
    (hn : Nat.beq m.np (es.length + 1) = true := by rfl) (la : Nat.beq (esLen is) (es.length + 1) = true := by rfl) (lk : Nat.beq (esLen js) m.ks.length = true := by rfl) (hall : (backToKw pos (keywordEach kws X.env)).all (·.1.isSome) = true := by rfl) (hks : (backToKw pos (keywordEach kws X.env)).filterMap (·.1) = m.ks := by rfl)
    (he : starEach (a :: es) X.env = (false, eval a X.env) :: starEach es X.env := by rfl) (hpl : ((backTo pos (starEach (a :: es) X.env)).any (·.1) || (backToKw pos (keywordEach kws X.env)).any (·.1.isNone)) = false := by rfl) :
    PE X (.Call (.Name m.x p0) (a :: es) kws pos) (tE X.K g (.callw m.f is js m.ar)) := by
  have M := cx.cw i m hi
  rw [Nat.eq_of_beq_eq_true hn] at M
  exact snd_callw M (cx.room.mono (by omega)) cx.tk (gl_of hg) (cx.fc j _ h) ha hk (Nat.eq_of_beq_eq_true la) (Nat.eq_of_beq_eq_true lk) hall hks (okName_of hx).1 he hpl
theorem e_dct {keys : List (Option Expr)} {vals : List Expr} {js : List Key} (h : PPs X pos keys vals (trsOf X.K g js is)) (hall : keys.all (·.isSome) = true := by rfl) (hl : keys.length = vals.length := by rfl) (h0 : keys ≠ [] := by exact fun z => by cases z) (h15 : Nat.ble keys.length 15 = true := by rfl)
    (hj : js.length = lenEs is := by rfl) (nd : js.Nodup := by decide) : PE X (.Dict keys vals pos) (tE X.K g (.dct js is)) := snd_dct h hall hl h0 (Nat.le_of_ble_eq_true h15) hj nd
theorem e_cmpv {o : CmpOp} (cx : Ct X g d tx) (i : Nat) (hb : PE X b (tE X.K g ib)) (hN : X.N[i]? = some x := by rfl) (hv : visB X.env.scope x = true := by rfl) (hx : okName x = true := by rfl) (hm : behindInMarks o b = false := by rfl) : PE X (.Compare (.Name x p0) [o] [b] pos) (tE X.K g (.cmpv o i ib)) :=
  snd_cmpv cx.un hN (vis_of hv) (okName_of hx).1 (okName_of hx).2.1 hb hm
end
end Ev
namespace Ev
open PySem L2
variable [WW]
structure Ih (P : Program) (w : World) (K : PySem.W.Frag) (mg : Str → Option Value) (base : Heap) (xr : XR) (C : Calls) (tx : Tx) (d : Nat) : Prop where
  fn : ∀ (i : Nat) (a : Ad) (io : List Nat) (n : Nat), tx.fs[i]? = some (some (a, io, n)) → FnA P w K mg base xr C (4 * d + 1) i (a.at_ K) io n
  mks : ∀ (i : Nat) (m : MkI), tx.mks[i]? = some m → MkC P w K mg base xr C (4 * d + 1) m.f m.c m.np m.ks m.ar m.ds
  ms : ∀ (i : Nat) (c : Str) (f : Nat), tx.ms[i]? = some (c, f) → MkS P w K mg base xr C (4 * d + 1) f c
  kw : ∀ (j f : Nat) (a : Ad) (ks : List Str), tx.kw[j]? = some (f, a, ks) → KwS P w K mg base xr C (4 * d + 1) f (a.at_ K) ks
  cw : ∀ (i : Nat) (m : CwI), tx.cw[i]? = some m → CwC P w K mg base xr C (4 * d + 1) m.f m.x m.np m.ks m.ar m.ds
structure Mg (P : Program) (K : PySem.W.Frag) (w : World) (mg : Str → Option Value) (tx : Tx) : Prop where
  gl : ∀ (i : Nat) (x : Str) (io : List Nat) (n : Nat), tx.fs[i]? = some (some (.glo x, io, n)) → mg x = some (.ref (He.ga K x))
  bl : ∀ x, tx.bl.contains x = true → mg x = none
  fc : ∀ (i : Nat) (f : Fb), tx.fa[i]? = some f → f.P K w mg
  xs : ∀ (base : Heap) (c : Nat) (x : Str), tx.xs[c]? = some x → XcS P w K mg base x
def Fb.isGlo (x : Str) : Fb → Bool
  | .glo y => decide (y = x)
  | _ => false
def Fb.isFree (x : Str) : Fb → Bool
  | .free y => decide (y = x)
  | _ => false
def Tx.chk (tx : Tx) : Bool := tx.fs.all (fun o => match o with
    | some (.glo x, _, _) => tx.fa.any (Fb.isGlo x)
    | _ => true) && tx.bl.all fun x => tx.fa.any (Fb.isFree x)
section
variable {P : Program} {w : World} {K : PySem.W.Frag} {mg : Str → Option Value} {base : Heap} {x qual : Str} {params : Arguments} {body : List Stmt} {scope : Scope} {dvs : List V} {kws : List (Str × V)} {f : Addr} {fd : FuncData}
variable {tx : Tx} {tab : Nat → Option FD} {xr : XR} {xm : ∀ c t H (av av' : Addr → Prop) cls d, (∀ b, av' b → av b) → xr c t H av cls d → xr c t H av' cls d} {d : Nat} {G : Nat → Option T}
theorem mg_of (fc : ∀ (i : Nat) (f : Fb), tx.fa[i]? = some f → f.P K w mg) (h : tx.chk = true) (hx : ∀ (base : Heap) (c : Nat) (x : Str), tx.xs[c]? = some x → XcS P w K mg base x) : Mg P K w mg tx := by
  obtain ⟨h1, h2⟩ := ba h
  refine ⟨fun i x io n e => ?_, fun x hx => ?_, fc, hx⟩
  · have := List.all_eq_true.mp h1 _ (List.mem_of_getElem? e)
    obtain ⟨f, hf, z⟩ := List.any_eq_true.mp (show tx.fa.any (Fb.isGlo x) = true from this)
    obtain ⟨j, hj, ej⟩ := List.mem_iff_getElem.mp hf
    have p := fc j f (List.getElem?_eq_some_iff.mpr ⟨hj, ej⟩)
    cases f with
    | glo y =>
      cases (of_decide_eq_true z : y = x)
      exact p
    | _ => cases z
  · have := List.all_eq_true.mp h2 x (List.contains_iff_mem.mp hx)
    obtain ⟨f, hf, z⟩ := List.any_eq_true.mp this
    obtain ⟨j, hj, ej⟩ := List.mem_iff_getElem.mp hf
    have p := fc j f (List.getElem?_eq_some_iff.mpr ⟨hj, ej⟩)
    cases f with
    | free y =>
      cases (of_decide_eq_true z : y = x)
      exact p
    | _ => cases z
theorem ct_of {N ps : List Str} {cdv : Value} {A : Around} {outer : List PySem.Env} {s : Shared} {H : Hp} {E : XK} (S : FnScope N ps scope) (M : Mg P K w mg tx) (ih : Ih P w K mg base (xrM K tx.xs) (callN (cstG tx.cs) tab d) tx d)
    (hr : Room (4 * d + 4) (A.deeper (PyProof.Rows.envOfC qual scope s.heap.objs.size f cdv))) :
    Ct (cxOf (L2.CX P w) P w K mg base N qual scope f cdv A outer s H E) (gOf (cstG tx.cs) (callN (cstG tx.cs) tab d) (xrM K tx.xs) (xmM K tx.xs) E) d tx :=
  ⟨rfl, S.nd, hr.units, takes_of rfl rfl rfl rfl, hr.mono (by omega), ih.fn, M.gl, M.bl, M.fc, rfl, ih.mks, ih.ms, rfl, M.xs base, ih.kw, ih.cw⟩
theorem own_of {N : List Str} {cdv : Value} {A : Around} {outer : List PySem.Env} {s : Shared} {H : Hp} {E : XK} : PassesOwn (model P w) (cxOf (L2.CX P w) P w K mg base N qual scope f cdv A outer s H E).A (cxOf (L2.CX P w) P w K mg base N qual scope f cdv A outer s H E).env (cxOf (L2.CX P w) P w K mg base N qual scope f cdv A outer s H E).xe :=
  passes_of (X := cxOf (L2.CX P w) P w K mg base N qual scope f cdv A outer s H E) rfl
abbrev Bd (P : Program) (w : World) (K : PySem.W.Frag) (mg : Str → Option Value) (base : Heap) (xr : XR) (xm : ∀ c t H (av av' : Addr → Prop) cls d, (∀ b, av' b → av b) → xr c t H av cls d → xr c t H av' cls d) (G : Nat → Option T) (tab : Nat → Option FD) (d : Nat) (N : List Str) (qual : Str) (scope : Scope) (f : Addr) (body : List Stmt) (fd0 : FD) : Prop :=
  ∀ (cdv : Value) (A : Around) (outer : List PySem.Env) (s : Shared) (H : Hp) (E : XK), Room (4 * d + 4) (A.deeper (PyProof.Rows.envOfC qual scope s.heap.objs.size f cdv)) →
    PSs (cxOf (L2.CX P w) P w K mg base N qual scope f cdv A outer s H E) body (tSs K (gOf G (callN G tab d) xr xm E) fd0.io fd0.body)
theorem mkA {N ps : List Str} {i n : Nat} {io : List Nat} {fd0 : FD} (F : FunD K x qual params body scope [] kws f fd) (S : FnScope N ps scope)
    (ht : tab i = some fd0) (hnp : Nat.beq fd0.np ps.length = true) (hns : Nat.beq fd0.ns N.length = true) (hn : Nat.beq n ps.length = true) (ei : fd0.io = io) (hnd : fd0.io.Nodup) (hio : allLt fd0.io fd0.np = true)
    (bd : ∀ (kV doc pm : Value) (an : Option Addr) (cdv ct : Value) (us : List Value), us.length = ps.length → bindArgs (PySem.W.fnOf x qual params body scope .none kV doc pm an cdv ct) ⟨us, []⟩ = pure (ps.zip us))
    (hb : Bd P w K mg base xr xm G tab d N qual scope f body fd0) : FnA P w K mg base xr (callN G tab (d + 1)) (4 * (d + 1) + 1) i f io n := by
  subst ei
  rw [Nat.eq_of_beq_eq_true hn]
  exact ⟨fd, ps, fn_succ (k := 4 * d + 4) F S ht (Nat.eq_of_beq_eq_true hnp) (Nat.eq_of_beq_eq_true hns) hnd (allLt_of hio) hb, F.kp, F.bindsN bd⟩
theorem mkA0 {ps : List Str} {i n : Nat} {io : List Nat} (F : FunD K x qual params body scope [] kws f fd) (hn : Nat.beq n ps.length = true)
    (bd : ∀ (kV doc pm : Value) (an : Option Addr) (cdv ct : Value) (us : List Value), us.length = ps.length → bindArgs (PySem.W.fnOf x qual params body scope .none kV doc pm an cdv ct) ⟨us, []⟩ = pure (ps.zip us)) :
    FnA P w K mg base xr (callN G tab 0) (4 * 0 + 1) i f io n := by
  rw [Nat.eq_of_beq_eq_true hn]
  exact ⟨fd, ps, fn_zero rfl, F.kp, F.bindsN bd⟩
theorem mkW {N ps : List Str} {i np : Nat} {ks : List Str} {ar : List Ar} {ds : List T} {fd0 : FD} (F : FunD K x x params body scope [] kws (He.ga K x) fd) (S : FnScope N ps scope)
    (ht : tab i = some fd0) (hnp : Nat.beq fd0.np ps.length = true) (hns : Nat.beq fd0.ns N.length = true) (hn : Nat.beq ps.length ar.length = true) (ei : fd0.io = []) (hnd : fd0.io.Nodup) (hio : allLt fd0.io fd0.np = true)
    (kb : ∃ mv : List Value, KBn K fd ps np ks (fun us ws => gF ar us mv ws) (fun vs zs => gF ar vs (ds.map litV) zs)) (ok : ArOk ds ar)
    (hb : Bd P w K mg base xr xm G tab d N x scope (He.ga K x) body fd0) : CwC P w K mg base xr (callN G tab (d + 1)) (4 * (d + 1) + 1) i x np ks ar ds := by
  obtain ⟨mv, kb⟩ := kb
  refine ⟨⟨fd, ps, mv, ?_, F.kp, kb⟩, ok⟩
  have z := fn_succ (k := 4 * d + 4) F S ht (Nat.eq_of_beq_eq_true hnp) (Nat.eq_of_beq_eq_true hns) hnd (allLt_of hio) hb
  rw [ei, Nat.eq_of_beq_eq_true hn] at z
  exact z
theorem mkW0 {ps : List Str} {i np : Nat} {ks : List Str} {ar : List Ar} {ds : List T} (F : FunD K x x params body scope [] kws (He.ga K x) fd) (hn : Nat.beq ps.length ar.length = true)
    (kb : ∃ mv : List Value, KBn K fd ps np ks (fun us ws => gF ar us mv ws) (fun vs zs => gF ar vs (ds.map litV) zs)) (ok : ArOk ds ar) : CwC P w K mg base xr (callN G tab 0) (4 * 0 + 1) i x np ks ar ds := by
  obtain ⟨mv, kb⟩ := kb
  exact ⟨⟨fd, ps, mv, fn_zero (Nat.eq_of_beq_eq_true hn).symm, F.kp, kb⟩, ok⟩
end
end Ev
namespace Ev
open PySem L2
variable [WW]
theorem isTrue_cmp1 {a b : Expr} {o : CmpOp} {pos : Pos} {env : PySem.Env} {wh : Sem Value} : isTrue (.Compare a [o] [b] pos) env wh = (eval (.Compare a [o] [b] pos) env >>= fun c => holding [c] (truthy c)) := by
  simp only [isTrue_Compare1, eval_Compare1, bind_assoc]
section
variable {X : Cx} {g : Cfg} {pos : Pos} {a b : Expr} {o : CmpOp} {ia : E}
theorem pt_cmp1 {ta : TE} (ha : PE X (.Compare a [o] [b] pos) ta) : PT X (.Compare a [o] [b] pos) (fun σ H Q => ta σ H fun x H' => ∃ k, TruV X.K x H' k ∧ Q k H') := by
  refine ⟨fun pins s σ H Q I h => ?_⟩
  rw [isTrue_cmp1]
  exact wpAny_bind (thn (ha.run pins s σ H _ I h) fun v s1 ⟨x, H1, I1, r1, q1⟩ => wpAny_holding (tru_ok pins s1 σ H1 x v Q I1 r1 q1))
theorem t_pe (ha : PE X (.Compare a [o] [b] pos) (tE X.K g ia)) : PT X (.Compare a [o] [b] pos) (tT X.K g (.v ia)) :=
  PT.imp (pt_cmp1 ha) fun σ H Q ⟨Rt, env, A, rl, p⟩ => by
    refine ⟨Rt, env, A, rl, Post.seq p fun x e1 v1 H1 A1 B1 s1 o1 p1 => ?_⟩
    obtain ⟨k, ek, p2⟩ := Post.of p1
    exact ⟨k, tru_all (s1.fz0 o1) ek, p2 k H1 A1 [] s1.drop0 ⟨rfl, rfl⟩⟩
end
end Ev
namespace Ev
open PySem L2 RZ
variable [WW]
section
variable {K : PySem.W.Frag}
theorem newpair {H : Hp} {av : Addr → Prop} {p : Addr} {a b : T} {v w : V} (hp : H p = none) (fa : Fz K H av a v) (fb : Fz K H av b w) : Fz K (upd H p (.tup [v, w])) av (.tup [a, b]) (.ref p) := by
  have k : ∀ c o, KN H c o → ¬ av c → KN (upd H p (.tup [v, w])) c o := fun c o q _ => q.fresh hp
  have t : ∀ c xs, Rd H c (.tup xs) → Rd (upd H p (.tup [v, w])) c (.tup xs) := newtups hp
  have m := fun (t' : T) (x : V) (f : Fz K H av t' x) => Fz.mono (av' := av) k t (fun c z => .inl z) t' x f
  exact ⟨p, [v, w], rfl, .inl (.inl upd_same), v, [w], rfl, m a v fa, w, [], rfl, m b w fb, rfl⟩
theorem FzL.get1 {H : Hp} {av : Addr → Prop} {ts : List T} {xs : List V} {i : Nat} {t : T} (h1 : FzL K H av ts xs) (h : ((ts.zipIdx).map fun p => T.tup [.int p.2, p.1])[i]? = some t) :
    ∃ b w, t = .tup [.int i, b] ∧ xs[i]? = some w ∧ Fz K H av b w := by
  rw [List.getElem?_map] at h
  obtain ⟨p, hp, rfl⟩ := Option.map_eq_some_iff.mp h
  rw [List.getElem?_zipIdx] at hp
  obtain ⟨x, hx, rfl⟩ := Option.map_eq_some_iff.mp hp
  obtain ⟨v, hv, fv⟩ := h1.get hx
  exact ⟨x, v, by simp, hv, fv⟩
theorem jt_enumL {a : Addr} {ts : List T} : Jt K (Ite K a) ((ts.zipIdx).map fun p => .tup [.int p.2, p.1]) fun H av => Fz K H av (.lst ts) (.ref a) where
  mono := fun H H' av av' p k t h => Fz.mono k t h _ _ p
  stop := fun H av i p hi => by
    obtain ⟨a', xs, e, hs, _, hl⟩ := p
    cases e
    rw [List.length_map, List.length_zipIdx, hl.len] at hi
    exact ⟨xs, .inl hs, hi⟩
  go := fun H av i t p hi => by
    obtain ⟨a', xs, e, hs, _, hl⟩ := p
    cases e
    obtain ⟨_, w, _, hw, _⟩ := FzL.get1 hl hi
    exact ⟨xs, w, .inl hs, hw⟩
  yld := fun H av i t x H' p hi y => by
    obtain ⟨a', xs, e, hs, _, hl⟩ := p
    cases e
    obtain ⟨tb, w, rfl, hw, fw⟩ := FzL.get1 hl hi
    obtain ⟨q, y1, rfl, hq, rfl, y2⟩ := y
    have e1 := y2 xs (.inl hs)
    rw [hw] at e1
    cases e1
    exact ⟨fun c o z => by rw [upd_ne (ne_of_none z hq)]; exact z, newpair hq rfl fw⟩
end
end Ev
namespace PySem
open AutoSeq1 (wpAny_loadPart')
theorem enumT_new (q : Addr) (vals : Array Value) (m : Nat) (dk : Option Addr) (slo : Array (Option Value)) :
    Meets (Builtin.«enumerate.__new__» ⟨[.type "enumerate", .ref q], []⟩) (fun _ R st => st.heap.get? q = some { cls := .type "tuple", dict := dk, data := .seq vals m, slots := slo } ∧
      R (.ok (.ret (.ref (st.heap.push { cls := .type "tuple_iterator", data := .fields #[.ref q, .int 0 0] }).objs.size)))
        { st with heap := (st.heap.push { cls := .type "tuple_iterator", data := .fields #[.ref q, .int 0 0] }).push { cls := .type "enumerate", data := .fields #[.none, .bool false, .ref st.heap.objs.size, rawInt 0, .none, .none] } }) :=
  .of_wp fun prog w A R st hh => by
    obtain ⟨hp, gs, dr, tks, oss⟩ := st
    obtain ⟨hq, hh⟩ := hh
    have su := sub_enumerate
    have tq : Heap.IsTuple (Shared.heap ⟨hp, gs, dr, tks, oss⟩) q vals := ⟨_, hq, rfl, m, rfl⟩
    wp_walk using wpAny_loadPart' hq
    refine wpAny_stack_any fun sk => wpAny_pure ?_
    split
    · rename_i cc _ _ _ _ _
      cases (cc == Value.type "enumerate") <;>
      · wp_walk using wpAny_loadPart' hq, wpAny_pyIter_tuple tq
        exact ⟨_, rfl, hh⟩
    · wp_walk using wpAny_loadPart' hq, wpAny_pyIter_tuple tq
      exact ⟨_, rfl, hh⟩
theorem call_enumT {prog : Program} {w : World} {A : Around} {E : Value → Shared → Prop} {st : Shared} {q : Addr} {vals : Array Value} {Q : Value → Shared → Prop} (tq : st.heap.IsTuple q vals)
    (hh : ∀ h', IsEnum h' (st.heap.objs.size + 1) st.heap.objs.size 0 .none → h'.IsTupleIter st.heap.objs.size q 0 → h'.objs.size = st.heap.objs.size + 2 → (∀ c u, st.heap.get? c = some u → h'.get? c = some u) → Q (.ref (st.heap.objs.size + 1)) { st with heap := h' }) :
    wpAny (model prog w) A (call (.type "enumerate") [.ref q]) Q E st := by
  obtain ⟨⟨c, dk, dt, slo⟩, hq, hc, m, hd⟩ := tq
  cases (show c = .type "tuple" from hc)
  cases (show dt = .seq vals m from hd)
  refine callType_new F.called_enumerate (by decide) (F.typeCall_enumerate_1 _) (F.newCall_enumerate_1 _) (fun ob => F.args_object_init_2 ob _) F.entry_enumerate_new (enumT_new q vals m dk slo) ⟨hq, ?_⟩
  have z1 : (st.heap.push { cls := .type "tuple_iterator", data := .fields #[.ref q, .int 0 0] }).objs.size = st.heap.objs.size + 1 := Heap.size_push ..
  show _ ∧ _
  rw [z1]
  have en : IsEnum ((st.heap.push { cls := .type "tuple_iterator", data := .fields #[.ref q, .int 0 0] }).push { cls := .type "enumerate", data := .fields #[.none, .bool false, .ref st.heap.objs.size, rawInt 0, .none, .none] }) (st.heap.objs.size + 1) st.heap.objs.size 0 .none := by
    have y := Heap.get?_push_size (st.heap.push { cls := .type "tuple_iterator", data := .fields #[.ref q, .int 0 0] }) (o := { cls := .type "enumerate", data := .fields #[.none, .bool false, .ref st.heap.objs.size, rawInt 0, .none, .none] }) rfl
    rw [z1] at y
    exact y
  exact ⟨⟨_, en, rfl⟩, hh _ en ⟨_, Heap.get?_push_of_some _ (Heap.get?_push_size _ rfl), rfl, rfl⟩ (by rw [Heap.size_push, z1]) fun c u y => Heap.get?_push_of_some _ (Heap.get?_push_of_some _ y)⟩
end PySem
namespace Ev
open PySem L2 PyProof.Rows
variable [WW]
def IteT (K : PySem.W.Frag) (a : Addr) : L2.It :=
  ⟨fun i H => ∃ (xs : List V) (x : V), SqT K H a xs ∧ xs[i]? = some x,
    fun i H v H' => ∃ q x, v = .ref q ∧ H q = none ∧ H' = upd H q (.tup [.int (i : Nat), x]) ∧ ∀ xs, SqT K H a xs → xs[i]? = some x,
    fun i H => ∃ xs : List V, SqT K H a xs ∧ xs.length ≤ i⟩
theorem turn_eT {P : Program} {w : World} {K : PySem.W.Frag} {elts : List Expr} {kk : Nat} {tpos : Pos} (a en it : Addr) :
    Turn P w K (.Tuple elts kk tpos) (IteT K a) [en, it] en (fun i h => (∃ old, IsEnum h en it ((i : Nat) : Int) old) ∧ h.IsTupleIter it a i ∧ en ≠ it ∧ a ≠ it ∧ a ≠ en) where
  mem := by simp
  obj := fun i h tn c hc => by
    obtain ⟨⟨old, hen⟩, ⟨u, hu, _, hdu⟩, _⟩ := tn
    rcases (show c = en ∨ c = it by simpa using hc) with rfl | rfl
    · exact ⟨_, hen, fun v z => nomatch z⟩
    · exact ⟨u, hu, fun v z => by rw [hdu] at z; cases z⟩
  keep := fun i h h' tn k => by
    obtain ⟨⟨old, hen⟩, hi, r⟩ := tn
    exact ⟨⟨old, k en (by simp) _ hen⟩, hi.at fun u z => k it (by simp) u z, r⟩
  item := by
    intro X e1 e2 e3 hc i pins s σ H E I hf tn hgo
    subst e1 e2 e3
    obtain ⟨⟨old, hen⟩, hi, n1, n2, n3⟩ := tn
    obtain ⟨xs, x, hx, hxi⟩ := hgo
    obtain ⟨its, rv, tp, hz⟩ := I.tuple hx
    obtain ⟨u, hu, ru⟩ := rv.get hxi
    have lt1 : en < s.heap.objs.size := Heap.lt_size hen
    have lt2 : it < s.heap.objs.size := by
      obtain ⟨_, q, _⟩ := hi
      exact Heap.lt_size q
    have hlt : i < its.toArray.size := by
      rw [List.size_toArray]
      exact (List.getElem?_eq_some_iff.mp hu).1
    refine wpAny_pyNext_enum_itemD (Draws.tuple (A := X.A.in1) (I.ok.hd hc) it a n2 its.toArray) hen ⟨hi, tp⟩ hlt n1 (by simp; exact ⟨n1, fun z => n3 z.symm⟩) fun y h' tk hy ho st' hT hsz hk => ?_
    have ey : y = u := by
      have : its[i]? = some y := by simpa using hy
      rw [hu] at this
      exact (Option.some.inj this).symm
    subst ey
    refine ⟨_, rfl, wpAny_letOwnedTupleGo_enum (s := { s with heap := h', toks := tk + 1 }) ho fun h2 ho2 sb => ?_⟩
    have hT2 : h2.get? s.heap.objs.size = some { cls := .type "tuple", data := .seq #[.int i tk, y] } := (sb.2 _ (Nat.ne_of_gt lt1)).trans hT
    have ok2 : ObjOk X.prog X.w (upd H s.heap.objs.size (.tup [.int (i : Nat), x])) h2 s.heap.objs.size (.tup [.int (i : Nat), x]) :=
      ⟨by show 2 ≤ sizeLine; decide, [.int i tk, y], .cons ⟨_, rfl⟩ (.cons ru .nil), ⟨_, hT2, rfl, _, rfl⟩⟩
    have J : Inv X pins σ (upd H s.heap.objs.size (.tup [.int (i : Nat), x])) { s with heap := h2, toks := tk + 1 } :=
      I.turnedNew (ch := [en, it]) (fun c o hc' z => (sb.2 c (fun y => hc' (by simp [y]))).trans (hk c o (fun y => hc' (by simp [y])) (fun y => hc' (by simp [y])) z)) hf (Nat.le_refl _) ok2
    refine ⟨.ref s.heap.objs.size, _, J, rfl, ⟨_, x, rfl, I.hok.fresh (Nat.le_refl _), rfl, fun ys hys => by rw [I.tuple_inj hys hx]; exact hxi⟩, ⟨⟨y, ?_⟩, st'.1.at fun o z => (sb.2 it (Ne.symm n1)).trans z, n1, n2, n3⟩, fun c hc' => ?_⟩
    · have : ((i + 1 : Nat) : Int) = (i : Int) + 1 := by omega
      rw [this]
      exact ho2
    · have hlt' : c < s.heap.objs.size := by
        rcases (show c = en ∨ c = it by simpa using hc') with rfl | rfl
        · exact lt1
        · exact lt2
      rw [upd_ne (Nat.ne_of_lt hlt')]
      exact (hf c hc').1
  done := by
    intro X e1 e2 e3 hc i pins s σ H E I hf tn hst
    subst e1 e2 e3
    obtain ⟨⟨old, hen⟩, hi, n1, n2, n3⟩ := tn
    obtain ⟨xs, hx, hxl⟩ := hst
    obtain ⟨its, rv, tp, hz⟩ := I.tuple hx
    obtain ⟨g0, g1, _, g3, g4, g5⟩ := hf it (by simp)
    have hl := rv.length
    have no : its.toArray[i]? = none := by simp; omega
    have ty : s.TypeIs (.ref en) "enumerate" := ⟨_, hen, rfl⟩
    unfold pyNext
    refine wpAny_bind (wpAny_attempt (wpAny_callSpecial?_slot (name := Str.ofString "__next__") ty F.slot_enumerate_next (wpAny_call_entry F.slot_enumerate_next ty F.entry_enumerate_next ?_ (F.args_enumerate_next_1 _))))
    show wpAny _ _ (field (.ref en) 2 >>= _) _ _ _
    refine wpAny_bind (wpAny_field hen rfl (x := .ref it) rfl (wpAny_bind (wpAny_nextOf_tuple_end (I.ok.hd hc) hi tp no fun h' ex eb ⟨u, hu, hcu⟩ => ?_)))
    refine wpAny_bind (wpAny_isInstance (T := "StopIteration") (b := true) ⟨u, hu, hcu⟩ isSubtype_stop (wpAny_pure ?_))
    exact ⟨rfl, I.turned (t' := s.toks) (fun c o hb z => eb c o hb z) g0 g1 g3 g4 g5⟩
  self := fun A i s Q E tn h => by
    obtain ⟨⟨_, hen⟩, _⟩ := tn
    exact wpAny_pyIter_enum hen h
section
variable {K : PySem.W.Frag}
theorem jt_enumT {a : Addr} {ts : List T} : Jt K (IteT K a) ((ts.zipIdx).map fun p => .tup [.int p.2, p.1]) fun H av => Fz K H av (.tup ts) (.ref a) where
  mono := fun H H' av av' p k t h => Fz.mono k t h _ _ p
  stop := fun H av i p hi => by
    obtain ⟨a', xs, e, hs, hl⟩ := p
    cases e
    rw [List.length_map, List.length_zipIdx, hl.len] at hi
    exact ⟨xs, hs, hi⟩
  go := fun H av i t p hi => by
    obtain ⟨a', xs, e, hs, hl⟩ := p
    cases e
    obtain ⟨_, w, _, hw, _⟩ := FzL.get1 hl hi
    exact ⟨xs, w, hs, hw⟩
  yld := fun H av i t x H' p hi y => by
    obtain ⟨a', xs, e, hs, hl⟩ := p
    cases e
    obtain ⟨tb, w, rfl, hw, fw⟩ := FzL.get1 hl hi
    obtain ⟨q, y1, rfl, hq, rfl, y2⟩ := y
    have e1 := y2 xs hs
    rw [hw] at e1
    cases e1
    exact ⟨fun c o z => by rw [upd_ne (ne_of_none z hq)]; exact z, newpair hq rfl fw⟩
end
section
variable {X : Cx} {g : Cfg} {a : Expr} {ia : E} {pos p0 tpos : Pos} {elts : List Expr} {kk : Nat}
def iEnA (K : PySem.W.Frag) (ta : TA) : TI := fun σ H R => ta σ H fun vs H1 => ∃ a xs, vs = [.ref a] ∧ ((SqL K H1 a xs ∧ R (Ite K a) H1) ∨ (SqT K H1 a xs ∧ R (IteT K a) H1))
theorem pi_enA {ta : TA} (hg : Gl X "enumerate") (hm : X.mg "enumerate" = none) (ha : PA X [a] ta) (hs : starEach [a] X.env = [(false, eval a X.env)]) : PI X (.Tuple elts kk tpos) (.Call (.Name "enumerate" p0) [a] [] pos) (iEnA X.K ta) := by
  refine ⟨fun pins s σ H R I h => ?_⟩
  refine Call_ (ld_blt I hg hm boot_enumerate (callWith_type1 (thn (ha.run pos pins s σ H _ I h) fun us s1 ⟨vs, H1, I1, r1, q1⟩ => ?_) hs rfl))
  obtain ⟨ad, xs, ex, q⟩ := q1
  subst ex
  cases r1 with
  | cons r rr =>
    cases rr
    cases r
    have fp : ∀ c, c = s1.heap.objs.size + 1 ∨ c = s1.heap.objs.size → FpOk X pins H1 c := fun c hc => by
      have hle : s1.heap.objs.size ≤ c := by omega
      exact I1.fpOk hle (I1.hok.fresh hle)
    rcases q with ⟨hq, q⟩ | ⟨hq, q⟩
    · obtain ⟨its, rv, pl, hz⟩ := I1.list hq
      refine call_enumerate_list pl.isList fun h' hen hi hsz hk => wpAny_pyIter_enum hen ?_
      exact ⟨s1.heap.objs.size + 1, [s1.heap.objs.size + 1, s1.heap.objs.size], _, _, H1, rfl, I1.kept (t' := s1.toks) hk, turn_enum ad (s1.heap.objs.size + 1) s1.heap.objs.size, ⟨⟨.none, hen⟩, hi, Nat.succ_ne_self _⟩, fun c hc => fp c (by simpa using hc), q⟩
    · obtain ⟨its, rv, tp, hz⟩ := I1.tuple hq
      have hlt : ad < s1.heap.objs.size := by
        obtain ⟨_, ho, _⟩ := tp
        exact Heap.lt_size ho
      refine call_enumT tp fun h' hen hi hsz hk => wpAny_pyIter_enum hen ?_
      exact ⟨s1.heap.objs.size + 1, [s1.heap.objs.size + 1, s1.heap.objs.size], _, _, H1, rfl, I1.kept (t' := s1.toks) hk, turn_eT ad (s1.heap.objs.size + 1) s1.heap.objs.size, ⟨⟨.none, hen⟩, hi, Nat.succ_ne_self _, Nat.ne_of_lt hlt, Nat.ne_of_lt (Nat.lt_succ_of_lt hlt)⟩, fun c hc => fp c (by simpa using hc), q⟩
theorem sni_enum (hg : Gl X "enumerate") (hm : X.mg "enumerate" = none) (ha : PE X a (tE X.K g ia)) (hs : starEach [a] X.env = [(false, eval a X.env)]) : PI X (.Tuple elts kk tpos) (.Call (.Name "enumerate" p0) [a] [] pos) (tI X.K g (.enum ia)) :=
  PI.imp (pi_enA (ta := tCons (tE X.K g ia) tNil) hg hm (pa_cons ha pa_nil hs) hs) fun σ H Rr ⟨Rt, env, A, rl, p⟩ => by
    refine ⟨Rt, env, A, rl, Post.seq p fun x e1 v1 H1 A1 B1 s1 o1 p1 => ?_⟩
    have fz := s1.fz0 o1
    cases e : x.fz with
    | lst ts =>
      simp only [e] at p1
      rw [e] at fz
      obtain ⟨c, xs, rfl, hq, nq, hl⟩ := id fz
      exact ⟨c, xs, rfl, .inl ⟨.inl hq, p1 (Ite X.K c) H1 A1 [] s1.drop0 ⟨rfl, _, jt_enumL, fz⟩⟩⟩
    | tup ts =>
      simp only [e] at p1
      rw [e] at fz
      obtain ⟨c, xs, rfl, hq, hl⟩ := id fz
      exact ⟨c, xs, rfl, .inr ⟨hq, p1 (IteT X.K c) H1 A1 [] s1.drop0 ⟨rfl, _, jt_enumT, fz⟩⟩⟩
    | _ => simp only [e] at p1; exact p1.elim
end
end Ev
namespace Ev
open PySem L2
variable [WW]
theorem s_rais {X : Cx} {g : Cfg} {d : Nat} {tx : Tx} {ks : List Nat} {x : Str} {e : Expr} {ie : E} {p pos pos' : Pos} (cx : Ct X g d tx) (c : Nat) (he : PE X e (tE X.K g ie)) (hx : tx.xs[c]? = some x := by rfl) (hg : glB X.env x = true := by rfl) (hok : okName x = true := by rfl) (hbx : (x == bareX) = false := by rfl)
    (hs : starEach [e] X.env = (false, eval e X.env) :: starEach [] X.env := by rfl) : PS X (.Raise (some (.Call (.Name x p) [e] [] pos')) none pos) (tS X.K g ks (.rais c ie)) := by
  obtain ⟨D, fI, fd, T, iC, tI, F1, hb, hm⟩ := (cx.xs c x hx).ex (by simpa using hbx)
  refine PS.imp (ps_raise cx.calm cx.tk (pmk_sup (CX := L2.CX X.prog X.w) T iC tI F1 (cx.room.toRoom.mono (by omega)) hb (fun _ _ _ _ _ _ _ q => by obtain ⟨_, _, _, _, _, _, _, _, _, _, _, _, z⟩ := q; exact z.elim) (gl_of hg) hm he (okName_of hok).1 hs)) fun D σ H hl ⟨Rt, env, A, rl, q⟩ => ?_
  refine ⟨Rt, env, A, rl, PostS.seq q fun w e1 v H1 A1 B1 s1 o1 p1 dd hd => ?_⟩
  have fz := s1.fz0 o1
  refine p1 (.ref (He.ga X.K x)) (some dd) σ _ A1 Kp.refl (s1.drop0.new hd).drop0 ?_
  rw [cx.xq]
  exact ⟨x, some dd, v, hx, rfl, rfl, XDc.of hbx upd_same, Fz.mono (fun b u q _ => q.up (newkeep hd)) (newtups hd) (fun b z => .inl z) w.fz v fz⟩
theorem Sx.wipe {K : PySem.W.Frag} {Rt : Addr → Prop} {σ : St} {H H1 : Hp} {A A1 B : List Addr} {env : Env} {i : Nat} (s : Sx K Rt σ H A H1 env A1 B) (hi : i < env.length) (o : Option V) : ∃ A', Sx K Rt (σ.set i o) H A H1 (env.set i none) A' B ∧ ∀ b, Av (A' ++ B) Rt b → Av (A1 ++ B) Rt b := by
  obtain ⟨C1, Bo, C2, eA, hn, hw, hu⟩ := RE.slot env σ A1 i s.re hi
  subst eA
  have cnt : ∀ b, ((C1 ++ C2) ++ B).count b ≤ ((C1 ++ (Bo ++ C2)) ++ B).count b := fun b => by
    simp only [List.count_append]
    omega
  have sub : ∀ b ∈ (C1 ++ C2) ++ B, b ∈ (C1 ++ (Bo ++ C2)) ++ B := fun b hb => List.count_pos_iff.mp (Nat.lt_of_lt_of_le (List.count_pos_iff.mpr hb) (cnt b))
  have suba : ∀ b, Av ((C1 ++ C2) ++ B) Rt b → Av ((C1 ++ (Bo ++ C2)) ++ B) Rt b := fun b z => z.imp (sub b) id
  exact ⟨C1 ++ C2, ⟨s.go.sub sub, List.nodup_iff_count.mpr fun b => Nat.le_trans (cnt b) (List.nodup_iff_count.mp s.nd b), fun b hb => s.rt b (sub b hb), s.th, s.bth, (hu H1 (Av ((C1 ++ C2) ++ B) Rt) (fun _ _ q _ => q) (fun _ _ q => q) (fun b z => .inl (suba b z))).1 o, s.tb⟩, suba⟩
def tHs (K : PySem.W.Frag) (g : Cfg) (ks : List Nat) (i : Nat) (h : Hs) (a : Addr) (cls : Value) (d : Option Addr) : TS := fun D σ H => σ[i]? = some (some (.ref a)) ∧ ∃ Rt env A c t, Rl K Rt H σ env A ∧ g.xr c t H (Av (A ++ []) Rt) cls d ∧ PostS K g.mute ks Rt σ H A (evH g.G g.C h t env) D
section
variable {X : Cx} {g : Cfg} {d : Nat} {tx : Tx} {ks : List Nat} {x n : Str} {i : Nat} {body suite : List Stmt} {b₀ : Stmt} {np pos pos' : Pos} {sb : Ss} {cs : List Nat} {h : Hs}
theorem Ct.tr (c : Ct X g d tx) {W : WX} {pn : List (Addr × Obj)} {xe : Value → Shared → Prop} (tk : Takes (X.tr pn xe) W) : Ct (X.tr pn xe) { g with W := W } d tx :=
  ⟨c.calm, c.nd, c.un, tk, c.room, c.fn, c.gl, c.bl, c.fc, c.gc, c.mks, c.ms, c.xq, c.xs, c.kw, c.cw⟩
end
end Ev
namespace Ev
open PySem L2
variable [WW]
def tXv (K : PySem.W.Frag) (g : Cfg) (i : Nat) (a : Addr) (cls : Value) (d : Option Addr) (rp : Bool) : TE := fun σ H Q => σ[i]? = some (some (.ref a)) ∧ ∃ Rt env A c t, Rl K Rt H σ env A ∧ g.xr c t H (Av (A ++ []) Rt) cls d ∧ Post K g.mute (PO1 K) Rt σ H A (R.of (xvT rp t) env) Q
def tPo (K : PySem.W.Frag) (g : Cfg) (i : Nat) (a : Addr) (Z : Prop) (post : List Po) : TA := fun σ H Q => σ[i]? = some (some (.ref a)) ∧ Z ∧ ∃ Rt env A, Rl K Rt H σ env A ∧ Post K g.mute (POL K) Rt σ H A (evPo g.G g.C post env) Q
def evHA (G : Nat → Option T) (C : Calls) (pre : List T) (rp : Bool) (post : List Po) (t : T) (env : Env) : R (List W) := (R.of (xvT rp t) env).bind fun w env1 => (evPo G C post env1).bind fun ws env2 => .ok (pre.map .val ++ w :: ws) env2
def tHA (K : PySem.W.Frag) (g : Cfg) (i : Nat) (a : Addr) (cls : Value) (d : Option Addr) (pre : List T) (rp : Bool) (post : List Po) : TA := fun σ H Q => σ[i]? = some (some (.ref a)) ∧ ∃ Rt env A c t, Rl K Rt H σ env A ∧ g.xr c t H (Av (A ++ []) Rt) cls d ∧ Post K g.mute (POL K) Rt σ H A (evHA g.G g.C pre rp post t env) Q
section
variable {X : Cx} {g : Cfg} {d : Nat} {tx : Tx} {ks : List Nat} {x n y : Str} {i : Nat} {np pos pos' p p0 p1 p2 : Pos} {cs : List Nat} {h : Hs} {a : Addr} {oe : Obj} {cls : Value} {dd : Option Addr} {pn : List (Addr × Obj)} {e v : Expr} {es : List Expr} {ie : E} {pre : List T} {post : List Po} {rp : Bool}
theorem xv_f (cx : Ct X g d tx) (em : ExmK X.K x tx.xs cs) (hz : Zc cls dd oe) (hf : ∃ vs, oe.data = .fields vs) (hN : X.N[i]? = some n) (hv : Vis X.env.scope n) (h1 : (n == ("__debug__" : Str)) = false) (h2 : (n == ("__classdict__" : Str)) = false) (hnb : tx.xs.contains bareX = false)
    (hb : attributeBase (.Name n p) "value" X.env (eval (.Name n p) X.env) = eval (.Name n p) X.env) : PE (X.suite a ((a, oe) :: pn)) (.Attribute (.Name n p) "value" pos) (tXv X.K g i a cls dd false) :=
  ⟨fun pins s σ H Q I ⟨hσ, Rt, env, A, c, t, rl, xr, q⟩ => by
    rw [cx.xq] at xr
    obtain ⟨y, ad, v, ey, rfl, rfl, eh, fz⟩ := xr
    obtain ⟨ad2, e2, eh2⟩ := eh.at_ (fun z => by
      subst z
      rw [List.contains_iff_mem.mpr (List.mem_of_getElem? ey)] at hnb
      cases hnb)
    subst e2
    obtain ⟨_, xf, nv⟩ := em.ex c y ey
    exact (pe_xf xf nv hz hf (pe_var (X := X.suite a ((a, oe) :: pn)) hN hv h1 h2) hb).run pins s σ H Q I ⟨.ref a, hσ, rfl, rfl, ad2, _, v, rfl, eh2, rfl, q v H A [] rl.sx ⟨rfl, fz⟩⟩⟩
theorem po_nil {Z : Prop} : PA (X.suite a ((a, oe) :: pn)) [] (tPo X.K g i a Z []) := PA.imp pa_nil fun σ H Q ⟨hσ, _, Rt, env, A, rl, q⟩ => q [] H A [] rl.sx ⟨rfl, rfl⟩
theorem ha_v {Z : Prop} (zx : ∀ c t H av, g.xr c t H av cls dd → Z) (he : PE (X.suite a ((a, oe) :: pn)) e (tXv X.K g i a cls dd rp)) (hr : PA (X.suite a ((a, oe) :: pn)) es (tPo X.K g i a Z post)) (hs : starEach (e :: es) X.env = (false, eval e X.env) :: starEach es X.env) : PA (X.suite a ((a, oe) :: pn)) (e :: es) (tHA X.K g i a cls dd [] rp post) :=
  PA.imp (pa_cons he hr hs) fun σ H Q ⟨hσ, Rt, env, A, c, t, rl, xr, q⟩ => by
    have q' : Post X.K g.mute (POL X.K) Rt σ H A ((R.of (xvT rp t) env).bind fun w env1 => (evPo g.G g.C post env1).bind fun ws env2 => .ok (w :: ws) env2) Q := q
    refine ⟨hσ, Rt, env, A, c, t, rl, xr, Post.seq (g := g.mute) q' fun w e1 v H1 A1 B1 s1 o1 p1 => ⟨hσ, zx c t _ _ xr, RtB B1 Rt, e1, A1, s1.rl, Post.seq2 (g := g.mute) s1 p1 fun ws e2 vs H2 A2 B2 s2 o2 p2 => ?_⟩⟩
    exact p2 (v :: vs) H2 A2 (B1 ++ B2) (s1.next s2) ⟨v, vs, B1, B2, rfl, rfl, s1.own s2 o1, Sx.ownL2 o2⟩
def tIs (i : Nat) (a : Addr) (Z : Prop) (b : Bool) : TE := fun σ H Q => σ[i]? = some (some (.ref a)) ∧ Z ∧ Q (.bl b) H
def ZC (K : PySem.W.Frag) (tx : Tx) (cls : Value) : Prop := ∃ y ∈ tx.xs, cls = .ref (He.ga K y)
theorem zc_of (cx : Ct X g d tx) : ∀ c t H av, g.xr c t H av cls dd → ZC X.K tx cls := fun c t H av xr => by
  rw [cx.xq] at xr
  obtain ⟨y, ad, v, ey, rfl, _⟩ := xr
  exact ⟨y, List.mem_of_getElem? ey, rfl⟩
theorem evHA_cons {G : Nat → Option T} {C : Calls} {u t : T} {env : Env} : evHA G C (u :: pre) rp post t env = (evHA G C pre rp post t env).bind fun ws env1 => .ok (.val u :: ws) env1 := by
  unfold evHA
  cases R.of (xvT rp t) env with
  | no => rfl
  | exc c t e => rfl
  | ok w e =>
    show ((evPo G C post e).bind _) = ((evPo G C post e).bind _).bind _
    cases evPo G C post e with
    | no => rfl
    | exc c t e => rfl
    | ok ws e => rfl
theorem ha_s {z : Str} {j : Nat} (hr : PA (X.suite a ((a, oe) :: pn)) es (tHA X.K g i a cls dd pre rp post)) (hs : starEach (.Constant (.str z) j p :: es) X.env = (false, eval (.Constant (.str z) j p) X.env) :: starEach es X.env) : PA (X.suite a ((a, oe) :: pn)) (.Constant (.str z) j p :: es) (tHA X.K g i a cls dd (.str z :: pre) rp post) :=
  PA.imp (pa_cons pe_str hr hs) fun σ H Q ⟨hσ, Rt, env, A, c, t, rl, xr, q⟩ => by
    rw [evHA_cons] at q
    refine ⟨hσ, Rt, env, A, c, t, rl, xr, Post.seq (g := g.mute) q fun ws e1 vs H1 A1 B1 s1 o1 p1 => ?_⟩
    exact p1 (.str z :: vs) H1 A1 B1 s1 ⟨.str z, vs, [], B1, rfl, rfl, ⟨rfl, rfl⟩, o1⟩
theorem ha_lst (hr : PA (X.suite a ((a, oe) :: pn)) es (tHA X.K g i a cls dd pre rp post)) : PE (X.suite a ((a, oe) :: pn)) (.List es pos) (fun σ H Q => σ[i]? = some (some (.ref a)) ∧ ∃ Rt env A c t, Rl X.K Rt H σ env A ∧ g.xr c t H (Av (A ++ []) Rt) cls dd ∧ Post X.K g.mute (PO1 X.K) Rt σ H A ((evHA g.G g.C pre rp post t env).bind fun ws env1 => if decide (ws.length ≤ 16777216) then .ok (.lst ws) env1 else .no) Q) :=
  PE.imp (pe_lst hr) fun σ H Q ⟨hσ, Rt, env, A, c, t, rl, xr, q⟩ => by
    refine ⟨hσ, Rt, env, A, c, t, rl, xr, Post.seq (g := g.mute) q fun ws e1 vs H1 A1 B1 s1 o1 p1 => ?_⟩
    by_cases c : decide (ws.length ≤ 16777216) = true
    · rw [if_pos c] at p1
      refine ⟨by rw [sizeLine_eq, ← OwnL.len ws vs B1 o1]; exact of_decide_eq_true c, fun q hq => ?_⟩
      exact p1 (.ref q) _ A1 (q :: B1) (s1.new hq) ⟨q, vs, B1, rfl, rfl, upd_same, OwnL.newp hq o1⟩
    · rw [if_neg c] at p1; exact p1.elim
theorem evHA_seq {β : Type} {G : Nat → Option T} {C : Calls} {t : T} {env : Env} {k : List W → Env → R β} : (evHA G C pre rp post t env).bind k = (R.of (xvT rp t) env).bind fun w env1 => (evPo G C post env1).bind fun ws env2 => k (pre.map .val ++ w :: ws) env2 := by
  unfold evHA
  cases R.of (xvT rp t) env with
  | no => rfl
  | exc c t e => rfl
  | ok w e =>
    show ((evPo G C post e).bind _).bind _ = ((evPo G C post e).bind _)
    cases evPo G C post e with
    | no => rfl
    | exc c t e => rfl
    | ok ws e => rfl
theorem evPo_len {G : Nat → Option T} {C : Calls} : ∀ (post : List Po) (env env1 : Env) (ws : List W), evPo G C post env = .ok ws env1 → ws.length = post.length
  | [], env, env1, ws, h => by cases (show R.ok ([] : List W) env = .ok ws env1 from h); rfl
  | .e a :: r, env, env1, ws, h => by
    have h' : ((evE G C a env).bind fun w env1 => (evPo G C r env1).bind fun ws env2 => R.ok (w :: ws) env2) = .ok ws env1 := h
    cases e1 : evE G C a env with
    | no => rw [e1] at h'; cases h'
    | exc c t e2 => rw [e1] at h'; cases h'
    | ok w env2 =>
      rw [e1] at h'
      have h2 : ((evPo G C r env2).bind fun ws env2 => R.ok (w :: ws) env2) = .ok ws env1 := h'
      cases e2 : evPo G C r env2 with
      | no => rw [e2] at h2; cases h2
      | exc c t e3 => rw [e2] at h2; cases h2
      | ok us env3 =>
        rw [e2] at h2
        cases (show R.ok (w :: us) env3 = .ok ws env1 from h2)
        rw [List.length_cons, List.length_cons, evPo_len r env2 _ us e2]
  | .is b :: r, env, env1, ws, h => by
    have h2 : ((evPo G C r env).bind fun ws env2 => R.ok (W.val (.bl b) :: ws) env2) = .ok ws env1 := h
    cases e2 : evPo G C r env with
    | no => rw [e2] at h2; cases h2
    | exc c t e3 => rw [e2] at h2; cases h2
    | ok us env3 =>
      rw [e2] at h2
      cases (show R.ok (W.val (.bl b) :: us) env3 = .ok ws env1 from h2)
      rw [List.length_cons, List.length_cons, evPo_len r env _ us e2]
theorem hs_post {D : Ends} {Rt : Addr → Prop} {σ : St} {H : Hp} {A : List Addr} {t : T} {env : Env} {k : List W → Env → R F} (hl : decide (pre.length + post.length < 16777216) = true) (q : PostS X.K g.mute ks Rt σ H A ((R.of (xvT rp t) env).bind fun w env1 => (evPo g.G g.C post env1).bind fun ws env2 => k (pre.map .val ++ w :: ws) env2) D) :
    PostS X.K g.mute ks Rt σ H A (((evHA g.G g.C pre rp post t env).bind fun ws env1 => if decide (ws.length ≤ 16777216) then R.ok (W.lst ws) env1 else .no).bind fun w env1 => match w with
      | .lst ws => k ws env1
      | _ => .no) D := by
  rw [evHA_seq]
  cases e1 : R.of (xvT rp t) env with
  | no => rw [e1] at q; exact q
  | exc c t e => rw [e1] at q; exact q
  | ok w e =>
    rw [e1] at q
    have q2 : PostS X.K g.mute ks Rt σ H A ((evPo g.G g.C post e).bind fun ws env2 => k (pre.map .val ++ w :: ws) env2) D := q
    show PostS X.K g.mute ks Rt σ H A ((((evPo g.G g.C post e).bind fun ws env2 => if decide ((pre.map W.val ++ w :: ws).length ≤ 16777216) then R.ok (W.lst (pre.map .val ++ w :: ws)) env2 else .no)).bind _) D
    cases e2 : evPo g.G g.C post e with
    | no => rw [e2] at q2; exact q2
    | exc c t e => rw [e2] at q2; exact q2
    | ok ws e' =>
      rw [e2] at q2
      have hlen := evPo_len post e e' ws e2
      show PostS X.K g.mute ks Rt σ H A ((if decide ((pre.map W.val ++ w :: ws).length ≤ 16777216) then R.ok (W.lst (pre.map .val ++ w :: ws)) e' else .no).bind _) D
      rw [if_pos (by
        rw [List.length_append, List.length_map, List.length_cons, hlen]
        have := of_decide_eq_true hl
        exact decide_eq_true (by omega))]
      exact q2
theorem hs_asg {j : Nat} {p' : Pos} (hNd : X.N.Nodup) (hj : X.N[j]? = some y) (hy : Loc X.env.scope y) (hk : ks.contains j = false) (hfn : X.fn y = true ∨ X.env.scope.names.lookup y = some .local) (hsw : swapsWith (.List es p) (some (.Name y p')) pos.line X.env = pure false)
    (hr : PA (X.suite a ((a, oe) :: pn)) es (tHA X.K g i a cls dd pre rp post)) (hl : decide (pre.length + post.length < 16777216) = true) : PSs (X.suite a ((a, oe) :: pn)) [.Assign [.Name y p'] (.List es p) pos] (tHs X.K g ks i (.asg j pre rp post) a cls dd) :=
  PSs.imp (pss_cons (ps_set (X := X.suite a ((a, oe) :: pn)) hNd hj hy (ha_lst hr) hsw hfn) pss_nil) fun D σ H hn ⟨hσ, Rt, env, A, c, t, rl, xr, q⟩ => by
    refine ⟨hσ, Rt, env, A, c, t, rl, xr, PostS.seq (g := g.mute) (hs_post (k := fun ws env1 => .ok .nx (env1.set j (some (.lst ws)))) hl q) fun w e1 v H1 A1 B1 s1 o1 p1 => ?_⟩
    have len : j < e1.length := by rw [RE.len _ _ _ s1.re, hn]; exact lt_N hj
    cases w with
    | lst ws =>
      obtain ⟨A', s2⟩ := s1.put0 o1 len
      exact p1 _ H1 A' (Kp.set hk) s2
    | val t => exact p1.elim
    | nd n ws => exact p1.elim
    | set ts => exact p1.elim
end
end Ev
namespace Ev
open PySem L2
variable [WW]
section
variable {P : Program} {w : World} {K : PySem.W.Frag} {mg : Str → Option Value} {d : XD} {p0 p1 p2 p3 p4 p5 p6 p7 p8 p9 : Pos} {ar : Arg} {x : Str}
structure XcD (P : Program) (K : PySem.W.Frag) (mg : Str → Option Value) (D : Str) : Prop where
  fn : ∀ (w : World) (base : Heap), ∃ fd, L2.FnOk P w K mg base (L2.CX P w) 1 (He.ma K (He.ga K D) "__init__") fd ["self", "value"] (spSup K (He.ga K D)) ∧ Binds K fd ["self", "value"] []
theorem xcd_of (hd : ∃ oc od doc pm an cda ct cc osl ccl cdd vs0 ccs tf cl cld csl cdD, XdK K d oc od doc pm an cda ct cc osl ccl cdd vs0 ccs tf cl cld csl cdD) (eb : d.body = supBody p0 p1 p2 p3 p4 p5 p6 p7 p8 p9) (S : SupS d.scope) (hfile : ((P.main.file : Str) == d.file) = true)
    (hp : (d.params.posonlyargs ++ d.params.args).head? = some ar) (har : ar.arg = "self") (htop : (P.main.scope.names.lookup ("super" : Str)).isSome = false) (hmg : mg "super" = none)
    (hev : ∀ f cda cc : Addr, ∃ pl : Addr → Sem Bool, ∀ L : Addr, eval (.Call (.Attribute (.Call (.Name "super" p0) [] [] p1) "__init__" p2) [.Name "value" p3] [] p4) (PySem.W.ksEnv d.qual d.scope L f (.ref cda) cc) = (do
      let ov ← attributeBase (.Call (.Name "super" p0) [] [] p1) "__init__" (PySem.W.ksEnv d.qual d.scope L f (.ref cda) cc) (eval (.Call (.Name "super" p0) [] [] p1) (PySem.W.ksEnv d.qual d.scope L f (.ref cda) cc))
      standAt p2.atName
      let (f', first) ← holding [ov] (getMethod ov "__init__" (pl L))
      callWith p4 f' first (backTo p4 (starEach [.Name "value" p3] (PySem.W.ksEnv d.qual d.scope L f (.ref cda) cc))) []))
    (hb : ∀ (body : List Stmt) (doc pm : Value) (an : Option Addr) (cdv ct : Value) (cc : Addr) (us : List Value), us.length = 2 → bindArgs (PySem.W.ksFn "__init__" d.qual d.params body d.scope .none .none doc pm an cdv ct cc) ⟨us, []⟩ = pure ((["self", "value"] : List Str).zip us)) : XcD P K mg d.D := by
  obtain ⟨oc, od, doc, pm, an, cda, ct, cc, osl, ccl, cdd, vs0, ccs, tf, cl, cld, csl, cdD, k⟩ := hd
  refine ⟨fun w base => ?_⟩
  obtain ⟨pl, hev⟩ := hev (He.ma K (He.ga K d.D) "__init__") cda cc
  have lk := k.lk
  rw [eb] at lk
  exact ⟨_, sup_fn (k := 0) lk k.cd S k.co k.fi hfile k.ce k.cls hp har htop hmg k.st hev, .all fun us hl => hb _ doc pm an (.ref cda) ct cc us hl⟩
theorem xcs_of {D : Str} (hx : mg x = some (.ref (He.ga K x)) ∧ XcK K x D) (hd : XcD P K mg D) (base : Heap) (hbx : (x == bareX) = false := by rfl) : XcS P w K mg base x := by
  obtain ⟨fd, F, B⟩ := hd.fn w base
  refine ⟨fun _ => ?_, fun e => by rw [e] at hbx; exact absurd hbx (by decide)⟩
  exact ⟨He.ga K D, _, fd, hx.2.sup, hx.2.ini, hx.2.typ, F, B, hx.1⟩
end
section
variable {X : Cx} {g : Cfg} {d : Nat} {tx : Tx} {ks : List Nat} {x n y : Str} {i : Nat} {np pos pos' p p0 p1 p2 : Pos} {cs : List Nat} {h : Hs} {a : Addr} {oe : Obj} {cls : Value} {dd : Option Addr} {pn : List (Addr × Obj)} {e v b : Expr} {es : List Expr} {ie : E} {pre : List T} {post : List Po} {rp : Bool} {body suite : List Stmt} {b₀ : Stmt} {sb : Ss}
structure Cu (X : Cx) (g : Cfg) (d : Nat) (tx : Tx) (i : Nat) (n : Str) (x : Str) (cs : List Nat) (a : Addr) (oe : Obj) (cls : Value) (dd : Option Addr) (pn : List (Addr × Obj)) : Prop where
  cx : Ct X g d tx
  em : ExmK X.K x tx.xs cs
  hz : Zc cls dd oe
  hf : ∃ vs, oe.data = .fields vs
  hN : X.N[i]? = some n
  hv : visB X.env.scope n = true
  ok : okName n = true
theorem h_val (u : Cu X g d tx i n x cs a oe cls dd pn) (hb : attributeBase (.Name n p) "value" X.env (eval (.Name n p) X.env) = eval (.Name n p) X.env := by rfl) (hnb : tx.xs.contains bareX = false := by rfl) : PE (X.suite a ((a, oe) :: pn)) (.Attribute (.Name n p) "value" pos) (tXv X.K g i a cls dd false) :=
  xv_f u.cx u.em u.hz u.hf u.hN (vis_of u.hv) (okName_of u.ok).1 (okName_of u.ok).2.1 hnb hb
theorem h_nil (u : Cu X g d tx i n x cs a oe cls dd pn) : PA (X.suite a ((a, oe) :: pn)) [] (tPo X.K g i a (ZC X.K tx cls) []) := po_nil
theorem h_v (u : Cu X g d tx i n x cs a oe cls dd pn) (he : PE (X.suite a ((a, oe) :: pn)) e (tXv X.K g i a cls dd rp)) (hr : PA (X.suite a ((a, oe) :: pn)) es (tPo X.K g i a (ZC X.K tx cls) post)) (hs : starEach (e :: es) X.env = (false, eval e X.env) :: starEach es X.env := by rfl) : PA (X.suite a ((a, oe) :: pn)) (e :: es) (tHA X.K g i a cls dd [] rp post) := ha_v (zc_of u.cx) he hr hs
theorem h_s {z : Str} {j : Nat} (hr : PA (X.suite a ((a, oe) :: pn)) es (tHA X.K g i a cls dd pre rp post)) (hs : starEach (.Constant (.str z) j p :: es) X.env = (false, eval (.Constant (.str z) j p) X.env) :: starEach es X.env := by rfl) : PA (X.suite a ((a, oe) :: pn)) (.Constant (.str z) j p :: es) (tHA X.K g i a cls dd (.str z :: pre) rp post) := ha_s hr hs
end
end Ev
namespace Ev
open PySem PySem.Spec PyProof.Rows L2
variable [WW]
def PtIs : Value → Pt → Prop
  | .int i _, .i n => i = n
  | .str x _, .s y => x = y
  | _, _ => False
inductive PtsAre : List Value → List Pt → Prop where
  | nil : PtsAre [] []
  | cons {u : Value} {p : Pt} {us : List Value} {ps : List Pt} (h : PtIs u p) (r : PtsAre us ps) : PtsAre (u :: us) (p :: ps)
def ptV : Value → Option Pt
  | .int i _ => some (.i i)
  | .str x _ => some (.s x)
  | _ => none
theorem PtsAre.len {us : List Value} {ps : List Pt} (h : PtsAre us ps) : us.length = ps.length := by
  induction h with
  | nil => rfl
  | cons h r ih => rw [List.length_cons, List.length_cons, ih]
def IsRow (h : Heap) (v : Value) (ps : List Pt) : Prop := ∃ a o us n, v = .ref a ∧ h.get? a = some o ∧ o.cls = .type "tuple" ∧ o.data = .seq us n ∧ PtsAre us.toList ps
def rowV (h : Heap) : Value → List Pt
  | .ref a => (match h.get? a with
    | some ⟨_, _, .seq us _, _⟩ => us.toList.filterMap ptV
    | _ => [])
  | _ => []
theorem IsRow.keeps {h h' : Heap} {v : Value} {ps : List Pt} (r : IsRow h v ps) (k : ∀ b o, h.get? b = some o → o.cls = .type "tuple" → h'.get? b = some o) : IsRow h' v ps := by
  obtain ⟨a, o, us, n, e, ho, hc, hd, hp⟩ := r
  exact ⟨a, o, us, n, e, k a o ho hc, hc, hd, hp⟩
end Ev
namespace Ev
open PySem L2
variable [WW]
section
variable {K : PySem.W.Frag} {Rt : Addr → Prop} {H H1 : Hp} {σ : St} {env env1 : Env} {A A1 B D : List Addr} {ws us : List W} {xs zs : List V} {av av' : Addr → Prop} {i : Nat}
theorem OwnL.app : ∀ (ws : List W) (xs : List V) (B : List Addr), OwnL K H av ws xs B → OwnL K H av us zs D → OwnL K H av (ws ++ us) (xs ++ zs) (B ++ D)
  | [], xs, B, g1, g2 => by
    obtain ⟨r1, r2⟩ := g1
    subst r1 r2
    exact g2
  | w' :: ws, xs, B, g1, g2 => by
    obtain ⟨v, r, C1, C2, r1, r2, g3, g4⟩ := g1
    subst r1 r2
    exact ⟨v, r ++ zs, C1, C2 ++ D, rfl, by rw [List.append_assoc], g3, OwnL.app ws r C2 g4 g2⟩
mutual
theorem Fz.pure : ∀ (t : T) (v : V), t.pure = true → Fz K H av t v → Fz K H av' t v
  | .non, _, _, h => h
  | .bl _, _, _, h => h
  | .int _, _, _, h => h
  | .str _, _, _, h => h
  | .ty _, _, e, _ => by cases e
  | .gl _, _, e, _ => by cases e
  | .lst _, _, e, _ => by cases e
  | .set _, _, e, _ => by cases e
  | .nd _ _, _, e, _ => by cases e
  | .scr _, _, e, _ => by cases e
  | .dn _, _, e, _ => by cases e
  | .sol _, _, e, _ => by cases e
  | .tup ts, v, e, h => by
    obtain ⟨a, xs, ev, hs, hl⟩ := h
    exact ⟨a, xs, ev, hs, FzL.pure ts xs e hl⟩
theorem FzL.pure : ∀ (ts : List T) (vs : List V), purs ts = true → FzL K H av ts vs → FzL K H av' ts vs
  | [], _, _, h => h
  | t :: ts, vs, e, h => by
    obtain ⟨v, r, ev, h1, h2⟩ := h
    obtain ⟨e1, e2⟩ := ba (show (t.pure && purs ts) = true from e)
    exact ⟨v, r, ev, Fz.pure t v e1 h1, FzL.pure ts r e2 h2⟩
end
mutual
theorem Own.pure : ∀ (w : W) (v : V) (B : List Addr), w.pure = true → Own K H av w v B → Own K H av' w v B
  | .val t, v, B, e, h => ⟨h.1, Fz.pure t v e h.2⟩
  | .lst ws, v, B, e, h => by
    obtain ⟨a, xs, D, ev, eB, ha, hl⟩ := h
    exact ⟨a, xs, D, ev, eB, ha, OwnL.pure ws xs D e hl⟩
  | .nd n ws, v, B, e, h => by
    obtain ⟨a, xs, o, D, ev, eB, ha, no, hl⟩ := h
    exact ⟨a, xs, o, D, ev, eB, ha, no, OwnL.pure ws xs D e hl⟩
  | .set ts, v, B, e, h => h
theorem OwnL.pure : ∀ (ws : List W) (vs : List V) (B : List Addr), purW ws = true → OwnL K H av ws vs B → OwnL K H av' ws vs B
  | [], _, _, _, h => h
  | w :: ws, vs, B, e, h => by
    obtain ⟨v, r, B1, B2, ev, eB, h1, h2⟩ := h
    obtain ⟨e1, e2⟩ := ba (show (w.pure && purW ws) = true from e)
    exact ⟨v, r, B1, B2, ev, eB, Own.pure w v B1 e1 h1, OwnL.pure ws r B2 e2 h2⟩
end
theorem RE.lend (hav : ∀ b, av' b → av b) : ∀ (env : Env) (σ : St) (A : List Addr), (∀ b ∈ A, ¬ av' b) → RE K H av env σ A → RE K H av' (lendE env) σ []
  | [], _, _, _, h => ⟨h.1, rfl⟩
  | none :: env, σ, A, nb, h => by
    obtain ⟨o, r, rfl, h⟩ := h
    exact ⟨o, r, rfl, RE.lend hav env r A nb h⟩
  | some w :: env, σ, A, nb, h => by
    obtain ⟨v, r, B, D, rfl, rfl, h1, h2⟩ := h
    exact ⟨v, r, [], [], rfl, rfl, ⟨rfl, Own.fz hav w v B (fun b hb => nb b (List.mem_append_left _ hb)) h1⟩, RE.lend hav env r D (fun b hb => nb b (List.mem_append_right _ hb)) h2⟩
theorem Rl.lend (h : Rl K Rt H σ env A) : Rl K Rt H σ (lendE env) [] :=
  ⟨List.nodup_nil, fun b hb => (by cases hb), h.th, RE.lend (fun b z => z.elim (fun z => (by cases z)) .inr) env σ A (fun b hb z => z.elim (fun z => (by cases z)) (h.rt b hb)) h.re, h.tb⟩
end
section
variable {X : Cx} {g : Cfg} {d : Nat} {tx : Tx} {pos p0 tpos : Pos} {a b : Expr} {ia ib : E} {elts : List Expr} {kk : Nat}
theorem i_enum (cx : Ct X g d tx) (ha : PE X a (tE X.K g ia)) (hg : glB X.env "enumerate" = true := by rfl) (hm : tx.bl.contains "enumerate" = true := by rfl) (hs : starEach [a] X.env = [(false, eval a X.env)] := by rfl) : PI X (.Tuple elts kk tpos) (.Call (.Name "enumerate" p0) [a] [] pos) (tI X.K g (.enum ia)) :=
  sni_enum (gl_of hg) (cx.bl _ hm) ha hs
end
def freeB (sc : Scope) : Bool := sc.names.all fun p => match p.2 with
  | .free => p.1 == ("__class__" : Str)
  | _ => true
theorem supFree {sc : Scope} (h : freeB sc = true) : ∀ x, sc.names.lookup x = some .free → x = "__class__" := fun x e => by
  have := List.all_eq_true.mp h _ (PySem.mem_of_lookup e)
  exact beq_iff_eq.mp this
end Ev
namespace Ev
open PySem PySem.Spec PyProof.Rows
variable [WW]
section
variable {P : Program} {w : World} {A : Around} {R : Result → Shared → Prop} {I : Addr} {fp wr : List Addr} {G : Array GenState → Array GenState → Prop} {n : Nat} {Pv : Nat → Value → Prop} {St : Nat → Shared → Prop}
def TxAt (w : World) (hp : Heap) (D : Addr) (l : List Str) : Prop := ∃ M c, TxR w hp D M c ∧ SxIs M c (dedS [] l)
end
end Ev
namespace Ev
open PySem L2
variable [WW]
section
variable {X : Cx} {g : Cfg} {d : Nat} {tx : Tx} {pos p0 p1 : Pos} {a b : Expr} {ia ib : E}
def setXT : T → Option (List Str)
  | .lst ts => (T.strs ts).bind fun ss => if decide (ss.length < 4095) then some (dedS [] ss) else none
  | _ => none
def tXL (K : PySem.W.Frag) (w : World) (g : Cfg) (ia : E) : TE := fun σ H Q => ∃ Rt env A, Rl K Rt H σ env A ∧ Post K g (PX w) Rt σ H A ((evE g.G g.C ia env).bind fun x env1 => R.of (setXT x.fz) env1) Q
end
end Ev
namespace Ev
open PySem L2
variable [WW]
section
variable {X : Cx} {g : Cfg} {d : Nat} {tx : Tx} {ks : List Nat} {pos p0 p1 p2 apos cpos : Pos} {a b e : Expr} {ia ib : E} {c nm : Str} {k f : Nat} {fa : Addr}
abbrev Cfg.hush (g : Cfg) : Cfg := ⟨g.G, g.C, g.xr, fun _ _ _ _ => False, g.xm⟩
end
end Ev
namespace Ev
open PySem L2
variable [WW]
section
variable {K : PySem.W.Frag} {g : Cfg} {Rt : Addr → Prop} {H H1 : Hp} {σ : St} {env : Env} {A A1 B1 : List Addr} {i : Nat} {w : W}
theorem Sx.take (s : Sx K Rt σ H A H1 env A1 B1) (e : env[i]? = some (some w)) : ∃ v A2 B, σ[i]? = some (some v) ∧ Sx K Rt σ H A H1 (env.set i none) A2 (B ++ B1) ∧ Own K H1 (Av (A2 ++ (B ++ B1)) Rt) w v B ∧ ∀ b, Av (A2 ++ (B ++ B1)) Rt b ↔ Av (A1 ++ B1) Rt b := by
  have hi : i < env.length := (List.getElem?_eq_some_iff.mp e).1
  obtain ⟨C1, B, C2, eA, _, hw, hu⟩ := RE.slot env σ A1 i s.re hi
  obtain ⟨v, ev, ow⟩ := hw w e
  subst eA
  have eqm : ∀ b, b ∈ (C1 ++ C2) ++ (B ++ B1) ↔ b ∈ (C1 ++ (B ++ C2)) ++ B1 := fun b => by
    simp only [List.mem_append]
    constructor
    · rintro ((z | z) | (z | z))
      · exact .inl (.inl z)
      · exact .inl (.inr (.inr z))
      · exact .inl (.inr (.inl z))
      · exact .inr z
    · rintro ((z | z | z) | z)
      · exact .inl (.inl z)
      · exact .inr (.inl z)
      · exact .inl (.inr z)
      · exact .inr (.inr z)
  have suba : ∀ b, Av ((C1 ++ C2) ++ (B ++ B1)) Rt b ↔ Av ((C1 ++ (B ++ C2)) ++ B1) Rt b := fun b => ⟨fun z => z.imp (eqm b).mp id, fun z => z.imp (eqm b).mpr id⟩
  have re := (hu H1 (Av ((C1 ++ C2) ++ (B ++ B1)) Rt) (fun _ _ q _ => q) (fun _ _ q => q) (fun b z => .inl ((suba b).mp z))).1 (some v)
  rw [set_same ev] at re
  have nd : ((C1 ++ C2) ++ (B ++ B1)).Nodup := perm_nodup (by
    rw [List.perm_iff_count]
    intro a
    simp only [List.count_append]
    omega) s.nd
  refine ⟨v, C1 ++ C2, B, ev, ⟨s.go.sub fun b hb => (eqm b).mp hb, nd, fun b hb => s.rt b ((eqm b).mp hb), s.th, fun b hb => ?_, re, s.tb⟩, Own.mono w v B (fun _ _ q _ => q) (fun _ _ q => q) (fun b z => .inl ((suba b).mp z)) ow, suba⟩
  rcases List.mem_append.mp hb with hb | hb
  · obtain ⟨o, q, _⟩ := Own.there w v B ow b hb
    rw [q]; exact fun z => by cases z
  · exact s.bth b hb
end
end Ev
namespace Ev
open PySem L2
variable [WW]
def tTupS (t : TA) : TE := fun σ H Q => t σ H fun xs H1 => xs.length ≤ sizeLine ∧ ∀ p (o : Obj), H1 p = none → o.dict = none → Q (.ref p) (upd H1 p (.frz o (.tup xs)))
def rCatS (K : PySem.W.Frag) : R2 := fun x y H Q => ∃ a b xs ys, x = .ref a ∧ y = .ref b ∧ SqT K H a xs ∧ SqT K H b ys ∧ xs.length + ys.length ≤ sizeLine ∧
  (xs = [] → Q (.ref b) H) ∧ (xs ≠ [] → ys = [] → Q (.ref a) H) ∧ (xs ≠ [] → ys ≠ [] → ∀ p (o : Obj), H p = none → o.dict = none → Q (.ref p) (upd H p (.frz o (.tup (xs ++ ys)))))
section
variable {K : PySem.W.Frag} {Rt : Addr → Prop} {H H1 : Hp} {σ : St} {env : Env} {A A1 : List Addr}
theorem Sx.sol {p : Addr} {o : Obj} {xs : List V} {ts : List T} (s1 : Sx K Rt σ H A H1 env A1 []) (hp : H1 p = none) (hd : o.dict = none) (fz : FzL K H1 (Av (A1 ++ []) Rt) ts xs) :
    Sx K Rt σ H A (upd H1 p (.frz o (.tup xs))) env A1 [] ∧ Own K (upd H1 p (.frz o (.tup xs))) (Av (A1 ++ []) Rt) (.val (.sol ts)) (.ref p) [] := by
  have na : ¬ Av (A1 ++ []) Rt p := fun z => by
    rcases z with z | z
    · rw [List.append_nil] at z
      obtain ⟨o, q, _⟩ := RE.there _ _ _ s1.re p z
      rw [hp] at q; cases q
    · exact s1.th p z hp
  exact ⟨(s1.new hp (o := .frz o (.tup xs))).drop0, rfl, p, xs, o, rfl, upd_same, hd, na, FzL.mono (fun b o q _ => q.up (newkeep hp)) (newtups hp) (fun b z => .inl z) ts xs fz⟩
end
section
variable {X : Cx} {g : Cfg} {pos p0 apos cpos : Pos} {a b o : Expr} {ia ib : E} {es : List Expr} {is : Es} {x : Str} {n : Nat} {d : Addr} {ks : List Str} {ts : List T}
def tySol : V → Hp → Prop := fun x H => ∃ p xs o, x = .ref p ∧ H p = some (.frz o (.tup xs)) ∧ o.dict = none
end
end Ev
namespace Ev
open PySem L2
variable [WW]
section
variable {P : Program} {w : World} {K : PySem.W.Frag} {mg : Str → Option Value} {base : Heap} {xr : XR} {C : Calls} {l : Nat}
theorem fs_nil (b : Nat) : ∀ (i : Nat) (a : Ad) (io : List Nat) (n : Nat), ([] : List (Option (Ad × List Nat × Nat)))[i]? = some (some (a, io, n)) → FnA P w K mg base xr C l (i + b) (a.at_ K) io n := fun i a io n h => by simp at h
theorem fs_some {L : List (Option (Ad × List Nat × Nat))} {a0 : Ad} {io0 : List Nat} {n0 : Nat} (b : Nat) (h : FnA P w K mg base xr C l b (a0.at_ K) io0 n0)
    (t : ∀ (i : Nat) (a : Ad) (io : List Nat) (n : Nat), L[i]? = some (some (a, io, n)) → FnA P w K mg base xr C l (i + (b + 1)) (a.at_ K) io n) :
    ∀ (i : Nat) (a : Ad) (io : List Nat) (n : Nat), (some (a0, io0, n0) :: L)[i]? = some (some (a, io, n)) → FnA P w K mg base xr C l (i + b) (a.at_ K) io n := by
  intro i a io n e
  cases i with
  | zero =>
    rw [Nat.zero_add]
    simp only [List.getElem?_cons_zero, Option.some.injEq, Prod.mk.injEq] at e
    obtain ⟨rfl, rfl, rfl⟩ := e
    exact h
  | succ i =>
    have := t i a io n (by simpa using e)
    rwa [show i + 1 + b = i + (b + 1) by omega]
theorem fs_none {L : List (Option (Ad × List Nat × Nat))} (b : Nat)
    (t : ∀ (i : Nat) (a : Ad) (io : List Nat) (n : Nat), L[i]? = some (some (a, io, n)) → FnA P w K mg base xr C l (i + (b + 1)) (a.at_ K) io n) :
    ∀ (i : Nat) (a : Ad) (io : List Nat) (n : Nat), (none :: L)[i]? = some (some (a, io, n)) → FnA P w K mg base xr C l (i + b) (a.at_ K) io n := by
  intro i a io n e
  cases i with
  | zero => simp at e
  | succ i =>
    have := t i a io n (by simpa using e)
    rwa [show i + 1 + b = i + (b + 1) by omega]
end
end Ev
namespace Ev
open PySem L2
variable [WW]
def hookY (n : Nat) (fa : List Fb) (fn : List He5.DefA) (xd : List XD) : PySem.W.Hook where
  α := AlX
  obs := fun s => obsYG n fa fn xd s.heap.get?
  val := fun w => valX fa fn xd w
  says := fun w h => ∃ K : PySem.W.Frag, K.In h ∧ SaysX fa fn xd w K
  of := fun _ _ e => ⟨_, He.frG_in, e⟩
  keeps := fun _ _ _ ⟨K, hK, c⟩ k => ⟨K, PySem.W.Frag.In.keeps hK k, c⟩
end Ev
namespace Ev
open PySem PySem.W PySem.Calls PyProof.Rows HandSHeadRun
variable [WW]
def RunB (r : OpenRow) (H : Hook) (ob : SharedT → H.α) (M : Nat) (w : World) : Prop :=
  ∀ os : OsState, (endF (stepQ (denQ tabQ) r.prog w) M r.prog w os).map ob = some (H.val w)
theorem runB_of {r : OpenRow} {fa : List Fb} {fn : List He5.DefA} {xd : List XD} {ob : SharedT → AlX} {M : Nat} {w : World} (k j : Nat) (ho : ∀ s, ob s = obsYG 5 fa fn xd (getT s))
    (a1 : RunBa r (fa.take k) M w) (a2 : RunBa r (fa.drop k) M w) (f1 : RunBf r (fn.take j) M w) (f2 : RunBf r (fn.drop j) M w) (x : RunBx r fa fn xd M w) : RunB r (hookY 5 fa fn xd) ob M w := by
  intro os
  have b1 := a1 os
  have b2 := a2 os
  have b3 := f1 os
  have b4 := f2 os
  have b5 := x os
  revert b1 b2 b3 b4 b5
  generalize endF (stepQ (denQ tabQ) r.prog w) M r.prog w os = e
  intro b1 b2 b3 b4 b5
  cases e with
  | none => cases b1
  | some s =>
    have c1 := Option.some.inj b1
    have c2 := Option.some.inj b2
    have c3 := Option.some.inj b3
    have c4 := Option.some.inj b4
    have c5 := Option.some.inj b5
    have d1 := congrArg Prod.fst c5
    have d2 := congrArg Prod.snd c5
    have e1 : (fa.all fun f => f.ok (He.frG (getT s) (asB (getT s) 5))) = true := by
      rw [← List.take_append_drop k fa, List.all_append, Bool.and_eq_true]
      exact ⟨c1, c2⟩
    have e2 : (fn.all fun f => f.ok (He.frG (getT s) (asB (getT s) 5))) = true := by
      rw [← List.take_append_drop j fn, List.all_append, Bool.and_eq_true]
      exact ⟨c3, c4⟩
    have e3 : (xd.all fun f => f.ok (He.frG (getT s) (asB (getT s) 5))) = true := d1
    have e4 : (obsYG 5 fa fn xd (getT s)).2 = (valX fa fn xd w).2 := d2
    have e5 : (obsYG 5 fa fn xd (getT s)).1 = true := by
      show ((fa.all fun f => f.ok (He.frG (getT s) (asB (getT s) 5))) && ((fn.all fun f => f.ok (He.frG (getT s) (asB (getT s) 5))) && xd.all fun f => f.ok (He.frG (getT s) (asB (getT s) 5)))) = true
      rw [e1, e2, e3]
      rfl
    show some (ob s) = some (valX fa fn xd w)
    rw [ho]
    congr 1
    exact Prod.ext e5 e4
theorem run_two {r : OpenRow} {q : Program} {H : Hook} {ob : SharedT → H.α} {M : Nat} {loose : List PySem.Str} {w : World} (a : RunA r q M loose w) (b : RunB r H ob M w) : RunEq r q H ob M loose w := by
  intro os
  have a1 := a os
  have b1 := b os
  revert a1 b1
  generalize endF (stepQ (denQ tabQ) r.prog w) M r.prog w os = e
  intro a1 b1
  cases e with
  | none => cases a1
  | some s =>
    have a2 := Option.some.inj a1
    have b2 := Option.some.inj b1
    have a3 := congrArg Prod.fst a2
    have a4 := congrArg Prod.snd a2
    show some (_, _, _) = _
    have a3 : looksF r.prog (boot_heap w.params) s.abs = true := a3
    have a4 : seenQ q loose (importedModules r.prog.main.body) (fun s => xlAt q [] s && recOk r.toRowW.records s) s.abs = openGood q loose := a4
    have b2 : ob s = H.val w := b2
    rw [a3, a4, b2]
end Ev
namespace Ev
open PySem L2
variable [WW]
def ItemV (H : Hp) (a : Addr) (t : T) (v : V) : Prop :=
  (∃ (xs : List V) (j : Int) (n : Nat), H a = some (.lst xs) ∧ t = .int j ∧ L2.ixN xs.length j = some n ∧ xs[n]? = some v) ∨
  ∃ (kvs : List (Key × V)) (k : Key), H a = some (.dK kvs) ∧ keyT t = some k ∧ valV kvs k = some v
def StoV (o : HO) (t : T) (v : V) (o' : HO) : Prop :=
  (∃ (xs : List V) (j : Int) (n : Nat), o = .lst xs ∧ t = .int j ∧ L2.ixN xs.length j = some n ∧ o' = .lst (xs.set n v)) ∨
  ∃ (kvs : List (Key × V)) (k : Key), o = .dK kvs ∧ keyT t = some k ∧ kvs.length < 16777216 ∧ o' = .dK (putK kvs k v)
def PthV (H : Hp) : V → List T → V → Prop
  | v0, [], v1 => v1 = v0
  | v0, k :: ts, v1 => ∃ a v', v0 = .ref a ∧ ItemV H a k v' ∧ PthV H v' ts v1
theorem ItemV.mono {H H' : Hp} {a : Addr} {t : T} {v : V} (h : ItemV H a t v) (keep : ∀ b o, KN H b o → KN H' b o) : ItemV H' a t v := by
  rcases h with ⟨xs, j, n, e, r⟩ | ⟨kvs, k, e, r⟩
  · exact .inl ⟨xs, j, n, (keep _ _ ⟨e, fun ps z => by cases z⟩).1, r⟩
  · exact .inr ⟨kvs, k, (keep _ _ ⟨e, fun ps z => by cases z⟩).1, r⟩
theorem ItemV.det {H : Hp} {a : Addr} {t : T} {v v' : V} (h : ItemV H a t v) (h' : ItemV H a t v') : v = v' := by
  rcases h with ⟨xs, j, n, e, et, en, ex⟩ | ⟨kvs, k, e, ek, ev⟩ <;> rcases h' with ⟨xs', j', n', e', et', en', ex'⟩ | ⟨kvs', k', e', ek', ev'⟩
  · rw [e] at e'; cases e'; subst et; cases et'; rw [en] at en'; cases en'; rw [ex] at ex'; exact Option.some.inj ex'
  · rw [e] at e'; cases e'
  · rw [e] at e'; cases e'
  · rw [e] at e'; cases e'; rw [ek] at ek'; cases ek'; rw [ev] at ev'; exact Option.some.inj ev'
theorem PthV.mono {H H' : Hp} (keep : ∀ b o, KN H b o → KN H' b o) : ∀ {ts : List T} {v0 v1 : V}, PthV H v0 ts v1 → PthV H' v0 ts v1
  | [], _, _, h => h
  | _ :: _, _, _, ⟨a, v', e, it, h⟩ => ⟨a, v', e, it.mono keep, PthV.mono keep h⟩
theorem PthV.det {H : Hp} : ∀ {ts : List T} {v0 v1 v2 : V}, PthV H v0 ts v1 → PthV H v0 ts v2 → v1 = v2
  | [], _, _, _, h, h' => h.trans h'.symm
  | _ :: _, _, _, _, ⟨a, v', e, it, h⟩, ⟨a', v'', e', it', h'⟩ => by
    subst e
    cases e'
    cases it.det it'
    exact PthV.det h h'
theorem PthV.snoc {H : Hp} {k : T} : ∀ {ts : List T} {v0 v1 : V}, PthV H v0 (ts ++ [k]) v1 → ∃ a, PthV H v0 ts (.ref a) ∧ ItemV H a k v1
  | [], _, _, ⟨a, v', e, it, h⟩ => by
    cases (show _ = v' from h)
    exact ⟨a, e.symm, it⟩
  | _ :: _, _, _, ⟨a, v', e, it, h⟩ => by
    obtain ⟨b, h1, h2⟩ := PthV.snoc h
    exact ⟨b, ⟨a, v', e, it, h1⟩, h2⟩
theorem StoV.notup {o o' : HO} {t : T} {v : V} (h : StoV o t v o') : (∀ ys, o ≠ .tup ys) ∧ ∀ u ys, o ≠ .frz u ys := by
  rcases h with ⟨xs, j, n, rfl, _⟩ | ⟨kvs, k, rfl, _⟩
  · exact ⟨fun ys z => (by cases z), fun u ys z => (by cases z)⟩
  · exact ⟨fun ys z => (by cases z), fun u ys z => (by cases z)⟩
theorem StoV.nocode {o o' : HO} {t : T} {v : V} (h : StoV o t v o') (a : Addr) : ∀ q, o ≠ LamX.CodeO a q := by
  intro q z
  unfold LamX.CodeO at z
  rcases h with ⟨xs, j, n, rfl, _⟩ | ⟨kvs, k, rfl, _⟩ <;> cases z
theorem StoV.notb {o o' : HO} {t : T} {v : V} (h : StoV o t v o') (a : Addr) : ∀ q, o ≠ .tbl q := by
  intro q z
  rcases h with ⟨xs, j, n, rfl, _⟩ | ⟨kvs, k, rfl, _⟩ <;> cases z
theorem upd_tupsG {H : Hp} {b : Addr} {o o' : HO} (hb : H b = some o) (h : (∀ ys, o ≠ .tup ys) ∧ ∀ u ys, o ≠ .frz u ys) : ∀ c xs, Rd H c (.tup xs) → Rd (upd H b o') c (.tup xs) := fun c xs e => by
  have ne : c ≠ b := fun y => by
    subst y
    rcases e with e | ⟨u, e⟩
    · rw [hb] at e; exact h.1 _ (Option.some.inj e)
    · rw [hb] at e; exact h.2 _ _ (Option.some.inj e)
  exact Rd.mono e fun u e => by first | exact KN.put ne e | (rw [upd_ne ne]; exact e)
section
variable {K : PySem.W.Frag} {H : Hp} {av : Addr → Prop} {w : W} {v : V} {B : List Addr}
theorem OwnL.at_ : ∀ (ws : List W) (xs : List V) (D : List Addr) (n : Nat) (u : W), OwnL K H av ws xs D → ws[n]? = some u → ∃ v' D1 Du D2, D = D1 ++ (Du ++ D2) ∧ xs[n]? = some v' ∧ Own K H av u v' Du ∧
    ∀ H' u' Du', (∀ b o, KN H b o → (b ∈ D1 ++ D2 ∨ ¬ av b) → KN H' b o) → (∀ b xs, Rd H b (.tup xs) → Rd H' b (.tup xs)) → Own K H' av u' v' Du' → OwnL K H' av (ws.set n u') xs (D1 ++ (Du' ++ D2))
  | [], _, _, _, _, _, e => by simp at e
  | x :: ws, xs, D, 0, u, h, e => by
    obtain ⟨v', r, B1, B2, rfl, rfl, h1, h2⟩ := h
    have e' : x = u := by simpa using e
    subst e'
    exact ⟨v', [], B1, B2, rfl, rfl, h1, fun H' u' Du' keep tups ow => ⟨v', r, Du', B2, rfl, rfl, ow, OwnL.mono ws r B2 (fun b o q c => keep b o q (c.imp (fun z => z) id)) tups (fun _ z => .inl z) h2⟩⟩
  | x :: ws, xs, D, n + 1, u, h, e => by
    obtain ⟨v', r, B1, B2, rfl, rfl, h1, h2⟩ := h
    obtain ⟨z, D1, Du, D2, rfl, g1, g2, g3⟩ := OwnL.at_ ws r B2 n u h2 (by simpa using e)
    refine ⟨z, B1 ++ D1, Du, D2, by simp only [List.append_assoc], by simpa using g1, g2, fun H' u' Du' keep tups ow => ?_⟩
    refine ⟨v', r, B1, D1 ++ (Du' ++ D2), rfl, by simp only [List.append_assoc], Own.mono x v' B1 (fun b o q c => keep b o q (c.imp (fun z => by simp only [List.mem_append]; exact .inl (.inl z)) id)) tups (fun _ z => .inl z) h1, g3 H' u' Du' (fun b o q c => keep b o q (c.imp (fun z => ?_) id)) tups ow⟩
    simp only [List.mem_append] at z ⊢
    rcases z with z | z
    · exact .inl (.inr z)
    · exact .inr z
theorem getN_ix {j : Key} {u : W} : ∀ (ks : List Key) (ws : List W), getN ks ws j = some u → ∃ n, ws[n]? = some u ∧ (∀ u', putV ks ws j u' = ws.set n u') ∧ ∀ kvs : List (Key × V), kvs.map (·.1) = ks → valV kvs j = (kvs.map (·.2))[n]?
  | k :: ks, x :: ws, e => by
    have e' : (if k = j then some x else getN ks ws j) = some u := e
    by_cases c : k = j
    · rw [if_pos c] at e'
      cases e'
      refine ⟨0, rfl, fun u' => ?_, fun kvs hk => ?_⟩
      · show (if k = j then u' :: ws else u :: putV ks ws j u') = _
        rw [if_pos c]; rfl
      · cases kvs with
        | nil => cases hk
        | cons p r =>
          obtain ⟨h1, _⟩ := List.cons.inj (show p.1 :: r.map (·.1) = k :: ks from hk)
          exact valV_pos (h1.trans c)
    · rw [if_neg c] at e'
      obtain ⟨n, g1, g2, g3⟩ := getN_ix ks ws e'
      refine ⟨n + 1, by simpa using g1, fun u' => ?_, fun kvs hk => ?_⟩
      · show (if k = j then u' :: ws else x :: putV ks ws j u') = _
        rw [if_neg c, g2 u']; rfl
      · cases kvs with
        | nil => cases hk
        | cons p r =>
          obtain ⟨h1, h2⟩ := List.cons.inj (show p.1 :: r.map (·.1) = k :: ks from hk)
          rw [valV_neg (fun z => c (h1.symm.trans z)), g3 r h2]
          rfl
  | [], _, e => by cases e
  | _ :: _, [], e => by cases e
theorem cnt_sub {α : Type} [DecidableEq α] {l m : List α} (nd : m.Nodup) (h : ∀ c, l.count c ≤ m.count c) : l.Nodup := List.nodup_iff_count.mpr fun c => Nat.le_trans (h c) (List.nodup_iff_count.mp nd c)
theorem Own.putP (ow : Own K H av w v B) : ∀ (us : List T) (w0 : W) (v0 : V) (D : List Addr) (w1 : W), Own K H av w0 v0 D → Ev.putP us w0 w = some w1 → (D ++ B).Nodup → (∀ b ∈ D, av b) →
    ∃ init l r o o', us = init ++ [l] ∧ PthV H v0 init (.ref r) ∧ r ∈ D ∧ H r = some o ∧ StoV o l v o' ∧ ∃ D', Own K (upd H r o') av w1 v0 D' ∧ ∀ c, D'.count c ≤ (D ++ B).count c
  | [], w0, v0, D, w1, h0, hp, nd, ha => by cases w0 <;> cases hp
  | [k], .val t, v0, D, w1, h0, hp, nd, ha => by cases hp
  | [k], .set t, v0, D, w1, h0, hp, nd, ha => by cases hp
  | [k], .lst ws, v0, D, w1, h0, hp, nd, ha => by
    cases k with
    | int j =>
      have hp' : (L2.ixN ws.length j).map (fun n => W.lst (ws.set n w)) = some w1 := hp
      obtain ⟨n, en, rfl⟩ := Option.map_eq_some_iff.mp hp'
      obtain ⟨a, xs, D1, rfl, rfl, hq, hl⟩ := h0
      have hlen := OwnL.len ws xs D1 hl
      obtain ⟨D2, q1, q2⟩ := OwnL.setN ws xs D1 n (ixN_seq en).2.1 hl ow
      have n1 : a ∉ D2 := fun z => by
        have c1 := List.count_pos_iff.mpr z
        have c2 := q2 a
        have c3 := List.nodup_iff_count.mp nd a
        simp only [List.cons_append, List.count_cons, List.count_append, beq_self_eq_true, if_true] at c2 c3
        omega
      refine ⟨[], .int j, a, _, .lst (xs.set n v), rfl, rfl, List.mem_cons_self, hq, .inl ⟨xs, j, n, rfl, rfl, by rw [← hlen]; exact en, rfl⟩, a :: D2, ⟨a, _, D2, rfl, rfl, upd_same, OwnL.mono _ _ _ (upd_keep n1 (ha a List.mem_cons_self)) (upd_tups hq) (fun _ z => .inl z) q1⟩, fun c => ?_⟩
      have := q2 c
      simp only [List.cons_append, List.count_cons, List.count_append] at this ⊢
      omega
    | _ => cases hp
  | [k], .nd (.dcl _) ws, v0, D, w1, h0, hp, nd, ha => by cases hp
  | [k], .nd (.ins _ _) ws, v0, D, w1, h0, hp, nd, ha => by cases hp
  | [k], .nd (.dct ks) ws, v0, D, w1, h0, hp, nd, ha => by
    have hp' : (if decide (ks.length < 1000) = true then (keyT k).map (fun j => W.nd (.dct (putN ks j)) (putV ks ws j w)) else none) = some w1 := hp
    by_cases c : decide (ks.length < 1000) = true
    case neg => rw [if_neg c] at hp'; cases hp'
    rw [if_pos c] at hp'
    obtain ⟨j, ej, rfl⟩ := Option.map_eq_some_iff.mp hp'
    obtain ⟨a, xs, o, D1, rfl, rfl, hq, ⟨⟨kvs, rfl, f1, f2, ndk⟩, _⟩, hl⟩ := h0
    have lk : ks.length = kvs.length := by rw [← f1, List.length_map]
    have pm := putK_map j v kvs (by rw [f1]; exact ndk)
    have jl : ks.length = ws.length := by rw [OwnL.len ws xs D1 hl, ← f2, List.length_map]; exact lk
    obtain ⟨D2, q1, q2⟩ := OwnL.putV j ow ks ws xs D1 jl hl
    have n1 : a ∉ D2 := fun z => by
      have c1 := List.count_pos_iff.mpr z
      have c2 := q2 a
      have c3 := List.nodup_iff_count.mp nd a
      simp only [List.cons_append, List.count_cons, List.count_append, beq_self_eq_true, if_true] at c2 c3
      omega
    refine ⟨[], k, a, _, .dK (putK kvs j v), rfl, rfl, List.mem_cons_self, hq, .inr ⟨kvs, j, rfl, ej, by have := of_decide_eq_true c; omega, rfl⟩, a :: D2, ⟨a, Ev.putV ks xs j v, _, D2, rfl, rfl, upd_same, ⟨⟨_, rfl, by rw [pm.1, f1], by rw [pm.2, f1, f2], putN_nodup ks j ndk⟩, rfl⟩, OwnL.mono _ _ _ (upd_keep n1 (ha a List.mem_cons_self)) (upd_tupsG hq ⟨fun ys z => (by cases z), fun u ys z => (by cases z)⟩) (fun _ z => .inl z) q1⟩, fun c => ?_⟩
    have := q2 c
    simp only [List.cons_append, List.count_cons, List.count_append] at this ⊢
    omega
  | k :: m :: r, .val t, v0, D, w1, h0, hp, nd, ha => by cases hp
  | k :: m :: r, .set t, v0, D, w1, h0, hp, nd, ha => by cases hp
  | k :: m :: r, .nd (.dcl _) ws, v0, D, w1, h0, hp, nd, ha => by cases hp
  | k :: m :: r, .nd (.ins _ _) ws, v0, D, w1, h0, hp, nd, ha => by cases hp
  | k :: m :: r, .lst ws, v0, D, w1, h0, hp, nd, ha => by
    cases k with
    | int j =>
      have hp' : ((L2.ixN ws.length j).bind fun n => (ws[n]?).bind fun u => (Ev.putP (m :: r) u w).map fun u' => W.lst (ws.set n u')) = some w1 := hp
      obtain ⟨n, en, hp2⟩ := Option.bind_eq_some_iff.mp hp'
      obtain ⟨u, eu, hp3⟩ := Option.bind_eq_some_iff.mp hp2
      obtain ⟨u', eu', rfl⟩ := Option.map_eq_some_iff.mp hp3
      obtain ⟨a, xs, D0, rfl, rfl, hq, hl⟩ := h0
      have hlen := OwnL.len ws xs D0 hl
      obtain ⟨v', D1, Du, D2, rfl, gx, gu, gk⟩ := OwnL.at_ ws xs D0 n u hl eu
      have nd1 : (Du ++ B).Nodup := cnt_sub nd fun c => by
        simp only [List.cons_append, List.count_cons, List.count_append]
        omega
      obtain ⟨init, l, q, o, o', e1, e2, e3, e4, e5, D', e6, e7⟩ := Own.putP ow (m :: r) u v' Du u' gu eu' nd1 fun b hb => ha b (List.mem_cons_of_mem _ (List.mem_append_right _ (List.mem_append_left _ hb)))
      have cq := List.count_pos_iff.mpr e3
      have cn := List.nodup_iff_count.mp nd q
      simp only [List.cons_append, List.count_cons, List.count_append] at cn
      have na : a ≠ q := fun z => by subst z; simp only [beq_self_eq_true, if_true] at cn; omega
      have nq : q ∉ D1 ++ D2 := fun z => by
        have := List.count_pos_iff.mpr z
        simp only [List.count_append] at this
        omega
      have avq : av q := ha q (List.mem_cons_of_mem _ (List.mem_append_right _ (List.mem_append_left _ e3)))
      refine ⟨.int j :: init, l, q, o, o', by rw [e1]; rfl, ⟨a, v', rfl, .inl ⟨xs, j, n, hq, rfl, by rw [← hlen]; exact en, gx⟩, e2⟩, List.mem_cons_of_mem _ (List.mem_append_right _ (List.mem_append_left _ e3)), e4, e5, a :: (D1 ++ (D' ++ D2)), ⟨a, xs, _, rfl, rfl, by rw [upd_ne na]; exact hq, gk _ u' D' (upd_keep nq avq) (upd_tupsG e4 e5.notup) e6⟩, fun c => ?_⟩
      have := e7 c
      simp only [List.cons_append, List.count_cons, List.count_append] at this ⊢
      omega
    | _ => cases hp
  | k :: m :: r, .nd (.dct ks) ws, v0, D, w1, h0, hp, nd, ha => by
    have hp' : ((keyT k).bind fun j => (getN ks ws j).bind fun u => (Ev.putP (m :: r) u w).map fun u' => W.nd (.dct ks) (putV ks ws j u')) = some w1 := hp
    obtain ⟨j, ej, hp2⟩ := Option.bind_eq_some_iff.mp hp'
    obtain ⟨u, eg, hp3⟩ := Option.bind_eq_some_iff.mp hp2
    obtain ⟨u', eu', rfl⟩ := Option.map_eq_some_iff.mp hp3
    obtain ⟨n, eu, es, ev⟩ := getN_ix ks ws eg
    rw [es u']
    obtain ⟨a, xs, ob, D0, rfl, rfl, hq, ⟨⟨kvs, rfl, f1, f2, ndk⟩, fr⟩, hl⟩ := h0
    obtain ⟨v', D1, Du, D2, rfl, gx, gu, gk⟩ := OwnL.at_ ws xs D0 n u hl eu
    have nd1 : (Du ++ B).Nodup := cnt_sub nd fun c => by
      simp only [List.cons_append, List.count_cons, List.count_append]
      omega
    obtain ⟨init, l, q, o, o', e1, e2, e3, e4, e5, D', e6, e7⟩ := Own.putP ow (m :: r) u v' Du u' gu eu' nd1 fun b hb => ha b (List.mem_cons_of_mem _ (List.mem_append_right _ (List.mem_append_left _ hb)))
    have cq := List.count_pos_iff.mpr e3
    have cn := List.nodup_iff_count.mp nd q
    simp only [List.cons_append, List.count_cons, List.count_append] at cn
    have na : a ≠ q := fun z => by subst z; simp only [beq_self_eq_true, if_true] at cn; omega
    have nq : q ∉ D1 ++ D2 := fun z => by
      have := List.count_pos_iff.mpr z
      simp only [List.count_append] at this
      omega
    have avq : av q := ha q (List.mem_cons_of_mem _ (List.mem_append_right _ (List.mem_append_left _ e3)))
    refine ⟨k :: init, l, q, o, o', by rw [e1]; rfl, ⟨a, v', rfl, .inr ⟨kvs, j, hq, ej, by rw [ev kvs f1, f2]; exact gx⟩, e2⟩, List.mem_cons_of_mem _ (List.mem_append_right _ (List.mem_append_left _ e3)), e4, e5, a :: (D1 ++ (D' ++ D2)), ⟨a, xs, _, _, rfl, rfl, by rw [upd_ne na]; exact hq, ⟨⟨kvs, rfl, f1, f2, ndk⟩, fr⟩, gk _ u' D' (upd_keep nq avq) (upd_tupsG e4 e5.notup) e6⟩, fun c => ?_⟩
    have := e7 c
    simp only [List.cons_append, List.count_cons, List.count_append] at this ⊢
    omega
end
section
variable {K : PySem.W.Frag} {Rt : Addr → Prop} {H H1 : Hp} {σ : St} {env : Env} {A A1 B : List Addr} {w w0 w1 : W} {v : V} {us : List T} {i : Nat}
theorem Sx.putP (s : Sx K Rt σ H A H1 env A1 B) (hi : env[i]? = some (some w0)) (ow : Own K H1 (Av (A1 ++ B) Rt) w v B) (hp : Ev.putP us w0 w = some w1) :
    ∃ v0 init l r o o', σ[i]? = some (some v0) ∧ us = init ++ [l] ∧ PthV H1 v0 init (.ref r) ∧ H1 r = some o ∧ StoV o l v o' ∧ ∃ A', Sx K Rt σ H A (upd H1 r o') (env.set i (some w1)) A' [] ∧
      ∀ ts ys, FzL K H1 (Av (A1 ++ B) Rt) ts ys → FzL K (upd H1 r o') (Av (A' ++ []) Rt) ts ys := by
  obtain ⟨C1, Bo, C2, eA, _, hw, hu⟩ := RE.slot env σ A1 i s.re (List.getElem?_eq_some_iff.mp hi).1
  obtain ⟨v0, ev, ow0⟩ := hw _ hi
  subst eA
  have nd0 : (Bo ++ B).Nodup := cnt_sub s.nd fun c => by
    simp only [List.count_append]
    omega
  obtain ⟨init, l, r, o, o', e1, e2, e3, e4, e5, D', e6, e7⟩ := Own.putP ow us w0 v0 Bo w1 ow0 hp nd0 fun b hb => .inl (List.mem_append_left _ (List.mem_append_right _ (List.mem_append_left _ hb)))
  have cnt : ∀ b, ((C1 ++ (D' ++ C2)) ++ []).count b ≤ ((C1 ++ (Bo ++ C2)) ++ B).count b := fun b => by
    have := e7 b
    simp only [List.count_append, List.count_nil] at this ⊢
    omega
  have sub : ∀ b ∈ (C1 ++ (D' ++ C2)) ++ [], b ∈ (C1 ++ (Bo ++ C2)) ++ B := fun b hb => List.count_pos_iff.mp (Nat.lt_of_lt_of_le (List.count_pos_iff.mpr hb) (cnt b))
  have suba : ∀ b, Av ((C1 ++ (D' ++ C2)) ++ []) Rt b → Av ((C1 ++ (Bo ++ C2)) ++ B) Rt b := fun b z => z.imp (sub b) id
  have rin : r ∈ (C1 ++ (Bo ++ C2)) ++ B := List.mem_append_left _ (List.mem_append_right _ (List.mem_append_left _ e3))
  have ava : Av ((C1 ++ (Bo ++ C2)) ++ B) Rt r := .inl rin
  have tup' : ∀ b xs, Rd H1 b (.tup xs) → Rd (upd H1 r o') b (.tup xs) := upd_tupsG e4 e5.notup
  have nr : r ∉ C1 ++ C2 := fun z => by
    have c1 := List.count_pos_iff.mpr z
    have c2 := List.count_pos_iff.mpr e3
    have c3 := List.nodup_iff_count.mp s.nd r
    simp only [List.count_append] at c1 c3
    omega
  refine ⟨v0, init, l, r, o, o', ev, e1, e2, e4, e5, C1 ++ (D' ++ C2), ⟨(s.go.put (s.go.new r rin) (fun ys z => by rcases z with z | ⟨u, z⟩ <;> (rw [e4] at z; first | exact e5.notup.1 _ (Option.some.inj z) | exact e5.notup.2 _ _ (Option.some.inj z))) (fun q z => by rw [e4] at z; exact e5.nocode r q (Option.some.inj z))).sub sub, cnt_sub s.nd cnt, fun b hb => s.rt b (sub b hb), fun b z => ?_, fun b hb => (by cases hb), ?_, s.tb.put (fun ps z => by rw [e4] at z; exact e5.notb r ps (Option.some.inj z)) (fun q z => by rw [e4] at z; exact e5.nocode r q (Option.some.inj z))⟩, fun ts ys f => ?_⟩
  · by_cases e : b = r
    · subst e; rw [upd_same]; exact fun q => by cases q
    · rw [upd_ne e]; exact s.th b z
  · have := (hu (upd H1 r o') (Av ((C1 ++ (D' ++ C2)) ++ []) Rt) (upd_keep nr ava) tup' (fun b z => .inl (suba b z))).2 w1 v0 D' (Own.mono w1 v0 D' (fun _ _ q _ => q) (fun _ _ q => q) (fun b z => .inl (suba b z)) e6)
    rw [set_same ev] at this
    exact this
  · exact FzL.mono (fun b u q c => by
      have ne : b ≠ r := fun z => c (by rw [z]; exact ava)
      first | exact KN.put ne q | (rw [upd_ne ne]; exact q)) tup' (fun b z => .inl (suba b z)) ts ys f
end
end Ev
namespace Ev
open PySem L2
variable [WW]
def tRd (K : PySem.W.Frag) (g : Cfg) (i : Nat) (kes : List E) : TE := fun σ H Q => ∃ Rt env A us v0 v1, Rl K Rt H σ env A ∧ evK g.G g.C kes env = some us ∧ σ[i]? = some (some v0) ∧ PthV H v0 us v1 ∧
  ∀ H1, (∀ b o, KN H b o → KN H1 b o) → Sx K Rt σ H A H1 env A [] → Q v1 H1
theorem PG.imp {X : Cx} {e : Expr} {t t' : TG} (h : PG X e t) (i : ∀ v σ H Q, t' v σ H Q → t v σ H Q) : PG X e t' := ⟨fun pins s σ H v u Q I r q => h.run pins s σ H v u Q I r (i v σ H Q q)⟩
theorem PGs.imp {X : Cx} {e : List Expr} {t t' : TGs} (h : PGs X e t) (i : ∀ v σ H Q, t' v σ H Q → t v σ H Q) : PGs X e t' := ⟨fun pins s σ H v u Q I r q => h.run pins s σ H v u Q I r (i v σ H Q q)⟩
section
variable {X : Cx} {g : Cfg} {d : Nat} {tx : Tx} {ks : List Nat} {pos p0 p1 p2 : Pos} {c kx a : Expr} {ik ia : E} {x : Str} {i : Nat} {kes : List E}
def gIt (K : PySem.W.Frag) (g : Cfg) (i : Nat) (kes : List E) : TG := fun v σ H Q => ∃ Rt H0 A0 env A B w us w0 w1, Sx K Rt σ H0 A0 H env A B ∧ Own K H (Av (A ++ B) Rt) w v B ∧ evK g.G g.C kes env = some us ∧ env[i]? = some (some w0) ∧ putP us w0 w = some w1 ∧
  ∀ H' A', Sx K Rt σ H0 A0 H' (env.set i (some w1)) A' [] → (∀ ts ys, FzL K H (Av (A ++ B) Rt) ts ys → FzL K H' (Av (A' ++ []) Rt) ts ys) → Q σ H'
def tPl (K : PySem.W.Frag) (g : Cfg) (ks : List Nat) (n : Nat) (ps : Plc) : TGs := fun vs σ H Q => ∃ Rt H0 A0 env A ts env', σ.length = n ∧ Sx K Rt σ H0 A0 H env A [] ∧ FzL K H (Av (A ++ []) Rt) ts vs ∧ stP g.G g.C ps ts env = some env' ∧
  ∀ σ' H' A', Kp ks σ σ' → Sx K Rt σ' H0 A0 H' env' A' [] → Q σ' H'
end
end Ev
namespace Ev
open PySem L2
variable [WW]
def tR0 (K : PySem.W.Frag) (g : Cfg) (ks : List Nat) (ie : E) : TS := fun D σ H => ∃ Rt env A, Rl K Rt H σ env A ∧ PostS K g.mute ks Rt σ H A ((evE g.G g.C ie env).bind fun w env1 => .ok (.rt w) env1) D
end Ev
namespace Ev
open PySem L2
variable [WW]
def evSt (G : Nat → Option T) (C : Calls) (a : E) : Es → Env → R (List W)
  | .nil, env => (evE G C a env).bind fun w env1 => match w.fz with
    | .tup ts => .ok (ts.map .val) env1
    | _ => .no
  | .cons e es, env => (evE G C e env).bind fun w env1 => (evSt G C a es env1).bind fun ws env2 => .ok (w :: ws) env2
section
variable {X : Cx} {g : Cfg} {es : List Expr} {e : Expr} {ia : E} {is : Es} {p pos : Pos}
def tSt (K : PySem.W.Frag) (g : Cfg) (a : E) (us : Es) : TA := fun σ H Q => ∃ Rt env A, Rl K Rt H σ env A ∧ Post K g (POL K) Rt σ H A (evSt g.G g.C a us env) Q
end
end Ev
namespace Ev
open PySem L2
variable [WW]
section
variable {X : Cx} {g : Cfg} {es : List Expr} {as : As} {x : Str} {i : Nat} {pos : Pos}
theorem sna_iol (hN : X.N[i]? = some x) (hv : Vis X.env.scope x) (hd : (x == ("__debug__" : Str)) = false) (hcd : (x == ("__classdict__" : Str)) = false) (hs : PA X es (tA X.K g as))
    (hst : starEach (.Name x pos :: es) X.env = (false, eval (.Name x pos) X.env) :: starEach es X.env) : PA X (.Name x pos :: es) (tA X.K g (.iol i as)) :=
  PA.imp (pa_cons (pe_var hN hv hd hcd) hs hst) fun σ H Q ⟨Rt, env, A, rl, p⟩ => by
    have p' : Post X.K g (POA X.K σ (.iol i as)) Rt σ H A (match env[i]? with
      | some (some _) => (evA g.G g.C as env).bind fun r env1 => (match env1[i]? with
        | some (some w) => .ok (w :: r.1, i :: r.2) (env1.set i none)
        | _ => .no)
      | _ => .no) Q := p
    cases e : env[i]? with
    | none => rw [e] at p'; exact p'.elim
    | some o =>
    cases o with
    | none => rw [e] at p'; exact p'.elim
    | some w0 =>
      rw [e] at p'
      obtain ⟨v, _, _, ev, _⟩ := rl.sx.take e
      refine ⟨v, ev, Rt, env, A, rl, Post.seq p' fun r e1 vs H1 A1 B1 s1 o1 p1 => ?_⟩
      obtain ⟨o1, e1', va⟩ := o1
      cases f : e1[i]? with
      | none => rw [f] at p1; exact p1.elim
      | some o =>
      cases o with
      | none => rw [f] at p1; exact p1.elim
      | some w =>
        rw [f] at p1
        obtain ⟨v2, A2, B, ev2, s2, ow, ave⟩ := s1.take f
        have evv : v2 = v := by
          rw [ev] at ev2
          exact (Option.some.inj (Option.some.inj ev2)).symm
        subst evv
        exact p1 (v2 :: vs) H1 A2 (B ++ B1) s2 ⟨⟨v2, vs, B, B1, rfl, rfl, ow, OwnL.mono _ _ _ (fun _ _ q _ => q) (fun _ _ q => q) (fun b z => .inl ((ave b).mp z)) o1⟩, congrArg (i :: ·) e1', v2, vs, rfl, ev, va⟩
theorem a_iol (i : Nat) (hs : PA X es (tA X.K g as)) (hN : X.N[i]? = some x := by rfl) (hv : visB X.env.scope x = true := by rfl) (hx : okName x = true := by rfl)
    (hst : starEach (.Name x pos :: es) X.env = (false, eval (.Name x pos) X.env) :: starEach es X.env := by rfl) : PA X (.Name x pos :: es) (tA X.K g (.iol i as)) := sna_iol hN (vis_of hv) (okName_of hx).1 (okName_of hx).2.1 hs hst
end
end Ev
namespace Ev
open PySem L2
variable [WW]
theorem OwnL.ahead {K : PySem.W.Frag} {H : Hp} {av : Addr → Prop} {ws : List W} {us : List V} {B : List Addr} (o : OwnL K H av ws us B) : ∀ (ts : List T) (vs : List V), FzL K H av ts vs → OwnL K H av (ts.map W.val ++ ws) (vs ++ us) B
  | [], _, h => by
    cases (show _ = [] from h)
    exact o
  | t :: ts, vs, h => by
    obtain ⟨v, r, rfl, h1, h2⟩ := h
    exact ⟨v, r ++ us, [], B, rfl, rfl, ⟨rfl, h1⟩, OwnL.ahead o ts r h2⟩
section
variable {X : Cx} {g : Cfg} {e c : Expr} {ia ic : E} {p pos : Pos}
def evSf (G : Nat → Option T) (C : Calls) (a c : E) (env : Env) : R (List W) := (evE G C a env).bind fun w env1 => match w.fz with
  | .tup ts => (evE G C c env1).bind fun x env2 => .ok (ts.map .val ++ [x]) env2
  | _ => .no
def tSf (K : PySem.W.Frag) (g : Cfg) (a c : E) : TA := fun σ H Q => ∃ Rt env A, Rl K Rt H σ env A ∧ Post K g (POL K) Rt σ H A (evSf g.G g.C a c env) Q
end
end Ev
namespace Ev
open PySem PySem.Spec PyProof.Rows L2
variable [WW]
section
variable {X : Cx} {g : Cfg} {d : Nat} {tx : Tx} {ks : List Nat} {x n : Str} {i : Nat} {np pos pos' pos'' p p0 p1 p3 : Pos} {cs : List Nat} {a : Addr} {oe : Obj} {cls : Value} {dd : Option Addr} {pn : List (Addr × Obj)} {body : List Stmt} {b₀ : Stmt} {sb : Ss}
def tHi (K : PySem.W.Frag) (g : Cfg) (ks : List Nat) (i : Nat) (xs : List Str) (cs : List Nat) (a : Addr) (cls : Value) (d : Option Addr) : TS := fun D σ H => σ[i]? = some (some (.ref a)) ∧ (∃ c y, xs[c]? = some y ∧ cs.contains c = true ∧ cls = .ref (He.ga K y)) ∧ ∃ Rt env A, Rl K Rt H σ env A ∧ PostS K g.mute ks Rt σ H A (.ok (.rt (.val (.bl true))) env) D
end
end Ev
namespace L2
open PySem PySem.Spec PyProof.Rows
def wAll (K : PySem.W.Frag) (j : Nat) (W0 : WX) (E : Ends) : List (Value × (Addr → Value → Option Addr → TS)) → WX
  | [] => W0
  | p :: ps => wAs K p.1 j p.2 (wAll K j W0 E ps) E
inductive HsA (Y : Cx) (n : Str) : List ExceptHandler → List (Value × (Addr → Value → Option Addr → TS)) → Prop
  | nil : HsA Y n [] []
  | cons {z : Str} {k : Value} {f : Addr → Value → Option Addr → TS} {st₀ : Stmt} {sts : List Stmt} {q1 q2 : Pos} {hs : List ExceptHandler} {l : List (Value × (Addr → Value → Option Addr → TS))} (nm : Names Y z k)
      (go : ∀ (e : Addr) (ob : Obj) (ty : Value) (dd : Option Addr) (pins : List (Addr × Obj)), Zc ty dd ob → (∃ us, ob.data = .fields us) → PSs (Y.suite e ((e, ob) :: pins)) (st₀ :: sts) (f e ty dd)) (r : HsA Y n hs l) :
      HsA Y n (.ExceptHandler (some (.Name z q1)) (some n) (st₀ :: sts) q2 :: hs) ((k, f) :: l)
section
variable {Y : Cx} {bd : List Stmt} {hd₀ : ExceptHandler} {hds : List ExceptHandler} {l : List (Value × (Addr → Value → Option Addr → TS))} {n : Str} {j : Nat} {pos : Pos} {tb : WX → TS} {W0 : WX}
theorem ps_tryA (stk : Y.stack = Y.env :: Y.outer) (frm : Y.env.frame = some Y.env.locals) (nod : Y.N.Nodup) (pl : Y.N[j]? = some n) (loc : Y.env.kindOf n = some .local) (tk : Takes Y W0)
    (body : ∀ (W : WX) (ps : List (Addr × Obj)) (ye : Value → Shared → Prop), Takes (Y.tr ps ye) W → PassesOwn (model Y.prog Y.w) Y.A Y.env ye → PSs (Y.tr ps ye) bd (tb W))
    (cls : HsA Y n (hd₀ :: hds) l) : PS Y (.Try bd (hd₀ :: hds) [] [] pos) (fun E τ H => tb (wAll Y.K j W0 E l) E τ H) := by
  refine ⟨fun pins sh τ H E J g => ?_⟩
  have okk := J.ok
  have frs_ : Y.A.frames = some (Y.env :: Y.outer) := by rw [okk.frames, stk]
  have lc : Loc Y.env.scope n := .inl loc
  refine wpAny_Try_except ?_
  refine wpAny_mono ((body (wAll Y.K j W0 E l) (Y.pn ++ pins) (fun e sa => wpAny (model Y.prog Y.w) Y.A (noteFrame e Y.env) (fun _ sb => wpAny (model Y.prog Y.w) Y.A (setFlight e none) (fun _ sc =>
    wpAny (model Y.prog Y.w) Y.A (handleBy e Y.env (hd₀ :: hds)) (SP Y pins E) Y.xe sc) Y.xe sb) Y.xe sa) (fun u sx xx => ?_) PassesOwn.looking).run [] sh τ H E (J.toTry _) g) (fun f sa sp => ?_) (fun e sa he => he)
  · obtain ⟨ea, B, si, pins2, τ2, H2, ty, dd, rfl, J', newb, upp, skyx, noa, oss, agr, want⟩ := xx
    have Jt : Inv Y pins τ2 H2 si := J'.ofTry okk
    have sky2 : Sky B (Y.env :: Y.outer) ea (Zc ty dd) Y.env.locals sx.heap := by rw [← stk]; exact skyx
    show wpAny (model Y.prog Y.w) Y.A (noteFrame (.ref ea) Y.env) _ _ _
    refine Sky.land Zc.steady frs_ frm sky2 fun ha fla upa => ?_
    have Ja : Inv Y pins τ2 H2 { sx with heap := ha } := Jt.landed newb fla.1 (upp.trans upa) oss agr
    obtain ⟨oea, vsa, hea, hza, hda⟩ := fla.there
    have noFr : ∀ {hh : Heap} {ob : Obj} {us : Array Value}, hh.FunFrames B (Y.env :: Y.outer) → hh.get? ea = some ob → ob.data = .fields us → ea ∉ frs (Y.env :: Y.outer) := fun {hh ob us} ff eq dq hm => by
      obtain ⟨_, ob2, eq2, hnf⟩ := ff.mem hm
      rw [eq] at eq2; cases eq2
      exact hnf _ dq
    have nofr := noFr fla.2.2.1 hea hda
    have noL : ea ≠ Y.env.locals := fun z => nofr (List.mem_filterMap.mpr ⟨Y.env, List.mem_cons_self, by rw [frm, z]⟩)
    have noF : ea ∉ Y.fs := fun hm => by
      obtain ⟨en, hen, qq⟩ := List.mem_filterMap.mp hm
      exact nofr (List.mem_filterMap.mpr ⟨en, List.mem_cons_of_mem _ hen, qq⟩)
    have Sa := Ja.suite hea hda noa noL noF
    have run : ∀ {hds2 : List ExceptHandler} {l2 : List (Value × (Addr → Value → Option Addr → TS))}, HsA Y n hds2 l2 → wAll Y.K j W0 E l2 ty dd τ2 H2 →
        wpAny (model Y.prog Y.w) Y.A (handleBy (.ref ea) Y.env hds2) (SP Y pins E) Y.xe { sx with heap := ha } := by
      intro hds2 l2 hk
      induction hk with
      | nil =>
        intro wsh
        refine wpAny_handleBy_nil ?_
        obtain ⟨k1, k2, k3, oe, us, T, oT, ts2, he2, hz2, hd2, hv1, hr2⟩ := id fla
        unfold PySem.passOn
        refine wpAny_bind (wpAny_field he2 hd2 hv1 ?_)
        rw [if_neg (show ¬ ((Value.ref T == Value.none) = true) from by simp only [Bool.not_eq_true]; rfl)]
        have last : wpAny (model Y.prog Y.w) Y.A (setFlight (.ref ea) Y.env.frame) (fun _ sd => wpAny (model Y.prog Y.w) Y.A (throw (.ref ea) : Sem Flow) (SP Y pins E) Y.xe sd) Y.xe { sx with heap := ha } := by
          rw [frm]
          refine HandSPX.setFlight_upZ fla fun hb hhb upb => wpAny_throw (tk _ _ ?_)
          exact ⟨ea, B, si, pins, τ2, H2, ty, dd, rfl, Jt, newb, (upp.trans upa).trans upb, .inr (.inr (by rw [stk]; exact hhb)), noa, oss, agr, wsh⟩
        first
          | exact wpAny_bind (wpAny_pure (wpAny_bind last))
          | exact wpAny_bind last
      | @cons z k f st₀ sts q1 q2 hs3 l3 nm go r ih =>
        intro wsh
        obtain ⟨bb, hb1, yes, no_⟩ := wsh
        refine wpAny_handleBy_cons (codeAny_handlers_test ?_) (by intro qq; cases qq)
        have LT : PySem.W.Looks (model Y.prog Y.w) ha (typeOf (.ref ea)) ty := fun A Q E3 s3 kk qq => wpAny_typeOf_ref (kk _ _ hea) (by rw [hza.1]; exact qq)
        have LM := PySem.W.exm_one (M := model Y.prog Y.w) (Ja.kIn) LT hb1
        have tst : ∀ {Q : Value → Shared → Prop} {E3 : Value → Shared → Prop}, Q k { sx with heap := ha } → wpAny (model Y.prog Y.w) (Y.A.mark (some (.ref ea))) (eval (.Name z q1) Y.env) Q E3 { sx with heap := ha } := fun {Q E3} qq => by
          obtain ⟨g1, g2, gm | ⟨gm, gv, gn⟩⟩ := nm
          · exact ld_glob (X := Y.suite ea ((ea, oea) :: (Y.pn ++ pins))) Sa g1 gm qq g2
          · exact ld_blt (X := Y.suite ea ((ea, oea) :: (Y.pn ++ pins))) Sa g1 gm gv qq gn g2
        refine tst (LM.here ?_)
        cases bb with
        | true =>
          refine codeAny_handlers_suite_as ?_
          refine HandSPX.lands_againZ fla fun hb flb upb => ?_
          have Jb : Inv Y pins τ2 H2 { sx with heap := hb } := Jt.landed newb flb.1 ((upp.trans upa).trans upb) oss agr
          obtain ⟨oeb, vsb, heb, hzb, hdb⟩ := flb.there
          have Sb := Jb.suite heb hdb noa noL noF
          refine store_ok (X := Y.suite ea ((ea, oeb) :: (Y.pn ++ pins))) (v := .ref ea) Sb nod pl lc rfl (fun sd Sd_ => ?_) (.inr loc)
          refine wpAny_mono ((go ea oeb ty dd (Y.pn ++ pins) hzb ⟨_, hdb⟩).run [] sd _ H2 _ Sd_ (yes rfl ea noa)) (fun f2 se sp2 => ?_) (fun _ _ zz => False.elim zz)
          have fin : ∀ {τ6 : St} {H6 : Hp} {Q : Shared → Prop}, Inv (Y.suite ea ((ea, oeb) :: (Y.pn ++ pins))) [] τ6 H6 se → (∀ sg, Inv Y pins (τ6.set j none) H6 sg → Q sg) →
              wpAny (model Y.prog Y.w) Y.A (do bindName Y.env n .none; unbindBehindTheSuite Y.env n q2) (fun _ sg => Q sg) Y.xe se := fun {τ6 H6 Q} S6 hq => gone_ok (S6.unsuite okk) nod pl loc hq
          cases f2 with
          | next =>
            obtain ⟨τ6, H6, S6, qq⟩ := sp2
            exact fin S6 fun sg Jg => ⟨_, _, Jg, qq⟩
          | brk =>
            obtain ⟨τ6, H6, S6, qq⟩ := sp2
            exact fin S6 fun sg Jg => ⟨_, _, Jg, qq⟩
          | cont =>
            obtain ⟨τ6, H6, S6, qq⟩ := sp2
            exact fin S6 fun sg Jg => ⟨_, _, Jg, qq⟩
          | ret u =>
            obtain ⟨v6, τ6, H6, S6, r6, qq⟩ := sp2
            exact fin S6 fun sg Jg => ⟨_, _, _, Jg, r6, qq⟩
        | false =>
          show wpAny _ Y.A (handleBy (.ref ea) Y.env hs3) _ _ _
          exact ih (no_ rfl)
    exact run cls want
  · cases f with
    | next =>
      obtain ⟨τ2, H2, Jn, qq⟩ := sp
      exact wpAny_execs_nil ⟨τ2, H2, Jn.ofTry okk, qq⟩
    | brk =>
      obtain ⟨τ2, H2, Jn, qq⟩ := sp
      exact ⟨τ2, H2, Jn.ofTry okk, qq⟩
    | cont =>
      obtain ⟨τ2, H2, Jn, qq⟩ := sp
      exact ⟨τ2, H2, Jn.ofTry okk, qq⟩
    | ret u =>
      obtain ⟨v, τ2, H2, Jn, rr, qq⟩ := sp
      exact ⟨v, τ2, H2, Jn.ofTry okk, rr, qq⟩
end
end L2
namespace Ev
open PySem L2
variable [WW]
section
variable {X : Cx} {g : Cfg} {d : Nat} {tx : Tx} {ks : List Nat} {n : Str} {i : Nat} {pos : Pos} {body : List Stmt} {h₀ : ExceptHandler} {hds : List ExceptHandler} {hs : List (List Nat × Hs)} {sb : Ss}
inductive HsT (X : Cx) (g : Cfg) (d : Nat) (tx : Tx) (ks : List Nat) (i : Nat) (n : Str) : List ExceptHandler → List (List Nat × Hs) → Prop
  | nil : HsT X g d tx ks i n [] []
  | cons {x : Str} {cs : List Nat} {h : Hs} {b₀ : Stmt} {suite : List Stmt} {np pos' : Pos} {hds : List ExceptHandler} {hs : List (List Nat × Hs)} (hm : X.mg x = some (.ref (He.ga X.K x))) (em : ExmK X.K x tx.xs cs) (hg : glB X.env x = true) (hok : okName x = true)
      (hsu : ∀ (a : Addr) (oe : Obj) (cls : Value) (dd : Option Addr) (pn : List (Addr × Obj)), Cu X g d tx i n x cs a oe cls dd pn → PSs (X.suite a ((a, oe) :: pn)) (b₀ :: suite) (tHs X.K g ks i h a cls dd)) (r : HsT X g d tx ks i n hds hs) :
      HsT X g d tx ks i n (.ExceptHandler (some (.Name x np)) (some n) (b₀ :: suite) pos' :: hds) ((cs, h) :: hs)
def caughtM (g : Cfg) (i : Nat) (hs : List (List Nat × Hs)) (c : Nat) (t : T) (env1 : Env) : R F := match hs.find? fun p => p.1.contains c with
  | some p => (match evH g.G g.C p.2 t (env1.set i none) with
    | .ok .nx env2 => .ok .nx (env2.set i none)
    | .ok (.rt w) env2 => .ok (.rt w) env2
    | _ => .no)
  | none => .exc c t env1
theorem hs_all (cx : Ct X g d tx) (hi : X.N[i]? = some n) (hk : ks.contains i = false) (hv : visB X.env.scope n = true) (hon : okName n = true) : ∀ {hds : List ExceptHandler} {hs : List (List Nat × Hs)}, HsT X g d tx ks i n hds hs →
    ∃ l, HsA X n hds l ∧ ∀ {D : Ends} {Rt : Addr → Prop} {σ σ' : St} {H H' : Hp} {A A' : List Addr} {c : Nat} {t : T} {env1 : Env} {cls : Value} {dd : Option Addr}, σ.length = X.N.length → Kp ks σ σ' → Sx X.K Rt σ' H A H' env1 A' [] → g.xr c t H' (Av (A' ++ []) Rt) cls dd →
      PostS X.K g ks Rt σ H A (caughtM g i hs c t env1) D → wAll X.K i g.W D l cls dd σ' H' := by
  intro hds hs q
  induction q with
  | nil => exact ⟨[], .nil, fun _ kp sx px p => p _ _ _ _ _ kp sx px⟩
  | @cons x cs h b₀ suite np pos' hds hs hm em hg hok hsu r ih =>
    obtain ⟨l, hl, go⟩ := ih
    refine ⟨(.ref (He.ga X.K x), tHs X.K g ks i h) :: l, .cons ⟨gl_of hg, (okName_of hok).1, .inl hm⟩ (fun a oe cls dd pn hz hf => hsu a oe cls dd pn ⟨cx, em, hz, hf, hi, hv, hon⟩) hl, ?_⟩
    intro D Rt σ σ' H H' A A' c t env1 cls dd len kp sx px p
    have px' : xrM X.K tx.xs c t H' (Av (A' ++ []) Rt) cls dd := by rw [← cx.xq]; exact px
    obtain ⟨y, ad, v, ey, ec, ed, eh, fz⟩ := id px'
    obtain ⟨e1, _, _⟩ := em.ex c y ey
    subst ec
    refine ⟨cs.contains c, e1, fun hy a ha => ?_, fun hn => ?_⟩
    · have p2 : PostS X.K g ks Rt σ H A (match evH g.G g.C h t (env1.set i none) with
          | .ok .nx env2 => .ok .nx (env2.set i none)
          | .ok (.rt w) env2 => .ok (.rt w) env2
          | _ => .no) D := by
        have : caughtM g i ((cs, h) :: hs) c t env1 = (match evH g.G g.C h t (env1.set i none) with
          | .ok .nx env2 => .ok .nx (env2.set i none)
          | .ok (.rt w) env2 => .ok (.rt w) env2
          | _ => .no) := by
          unfold caughtM
          rw [List.find?_cons_of_pos (by exact hy)]
        rw [this] at p
        exact p
      have il : i < σ'.length := by rw [kp.1, len]; exact lt_N hi
      have le : i < env1.length := by rw [RE.len _ _ _ sx.re]; exact il
      obtain ⟨A2, s2, sub2⟩ := sx.wipe le (some (.ref a))
      have kp2 : Kp ks σ (σ'.set i (some (.ref a))) := kp.trans (Kp.set hk)
      refine ⟨by rw [List.getElem?_set_self il], Rt, env1.set i none, A2, c, t, s2.rl0, ?_, ?_⟩
      · rw [cx.xq]
        exact ⟨y, ad, v, ey, rfl, ed, eh, Fz.mono (fun _ _ q _ => q) (fun _ _ q => q) (fun b z => .inl (sub2 b z)) t v fz⟩
      · cases er : evH g.G g.C h t (env1.set i none) with
        | no => rw [er] at p2; exact p2.elim
        | exc c t e => rw [er] at p2; exact p2.elim
        | ok f env2 =>
          rw [er] at p2
          cases f with
          | bk => exact p2.elim
          | ct => exact p2.elim
          | rt w =>
            intro v2 σ3 H3 A3 B3 kp3 s3 o3
            exact p2 v2 σ3 H3 A3 B3 (kp2.trans kp3) (s2.next0 s3) o3
          | nx =>
            intro σ3 H3 A3 kp3 s3
            have l3 : i < env2.length := by rw [RE.len _ _ _ s3.re, kp3.1, kp2.1, len]; exact lt_N hi
            obtain ⟨A4, s4, _⟩ := (s2.next0 s3).wipe l3 none
            exact p2 _ H3 A4 ((kp2.trans kp3).trans (Kp.set hk)) s4
    · have e2 : caughtM g i ((cs, h) :: hs) c t env1 = caughtM g i hs c t env1 := by
        unfold caughtM
        rw [List.find?_cons_of_neg (by rw [hn]; decide)]
      rw [e2] at p
      exact go len kp sx px p
theorem hm_c {x : Str} {cs : List Nat} {h : Hs} {b₀ : Stmt} {suite : List Stmt} {np pos' : Pos} (cx : Ct X g d tx) (j : Nat)
    (hsu : ∀ (a : Addr) (oe : Obj) (cls : Value) (dd : Option Addr) (pn : List (Addr × Obj)), Cu X g d tx i n x cs a oe cls dd pn → PSs (X.suite a ((a, oe) :: pn)) (b₀ :: suite) (tHs X.K g ks i h a cls dd)) (r : HsT X g d tx ks i n hds hs)
    (hj : tx.fa[j]? = some (.exm x tx.xs cs) := by rfl) (hg : glB X.env x = true := by rfl) (hok : okName x = true := by rfl) :
    HsT X g d tx ks i n (.ExceptHandler (some (.Name x np)) (some n) (b₀ :: suite) pos' :: hds) ((cs, h) :: hs) := by
  obtain ⟨hm, em⟩ := cx.fc j _ hj
  exact .cons hm em hg hok hsu r
theorem hm_nil : HsT X g d tx ks i n [] [] := .nil
end
end Ev
namespace PySem.SeqAt
open AutoSeq1 (wpAny_loadPart')
open MeetsSeq MeetsSeq2 MeetsSeq3 SeqRoads2
section
variable {prog : Program} {w : World}
theorem neM_loop (p q : Addr) (us vs : Array Value) (m m2 : Nat) (d1 d2 : Option Addr) (z1 z2 : Array (Option Value)) (same : us.size = vs.size) (f : Nat → Bool) (left : Nat) :
    ∀ j : Nat, us.size - j = left → MeetsIn prog w (Builtin.«list.__eq__.loop» ⟨[.ref p, .ref q, rawInt j, rawInt 3], []⟩)
      (fun A R t => t.heap.get? p = some { cls := .type "list", dict := d1, data := .seq us m, slots := z1 } ∧ t.heap.get? q = some { cls := .type "list", dict := d2, data := .seq vs m2, slots := z2 } ∧
        (∀ c (h1 : c < us.size) (h2 : c < vs.size), EqP prog w A.in1 t us[c] vs[c] (f c)) ∧
        R (.ok (.ret (.bool (!((List.range us.size).drop j).all f)))) t) := by
  induction left with
  | zero =>
    intro j hj A R t hyp
    obtain ⟨hp, g, dd, tk, os⟩ := t; obtain ⟨at1, at2, eqs, hyp⟩ := hyp
    wp_walk using wpAny_loadPart' at1, wpAny_loadPart' at2
    have no1 : us[((j : Nat) : Int).toNat]? = none := by simp; omega
    have no2 : vs[((j : Nat) : Int).toNat]? = none := by simp; omega
    have dn : (List.range us.size).drop j = [] := by simp; omega
    rw [dn] at hyp
    rw [no1, no2]
    wp_walk using wpAny_loadPart' at1, wpAny_loadPart' at2
    show R (.ok (.ret (.bool (us.size != vs.size)))) _
    rw [same]
    simpa using hyp
  | succ left ih =>
    intro j hj A R t hyp
    obtain ⟨hp, g, dd, tk, os⟩ := t; obtain ⟨at1, at2, eqs, hyp⟩ := hyp
    wp_walk using wpAny_loadPart' at1, wpAny_loadPart' at2
    have lt1 : j < us.size := by omega
    have lt2 : j < vs.size := by omega
    have is1 : us[((j : Nat) : Int).toNat]? = some us[j] := by simp [lt1]
    have is2 : vs[((j : Nat) : Int).toNat]? = some vs[j] := by simp [lt2]
    have dn : (List.range us.size).drop j = j :: (List.range us.size).drop (j + 1) := by simp [List.drop_eq_getElem_cons, lt1]
    have cast : ((j : Int) + 1) = ((j + 1 : Nat) : Int) := by push_cast; rfl
    rw [dn, List.all_cons] at hyp
    rw [is1, is2]
    refine wpAny_bind (eqs j lt1 lt2 _ _ ?_)
    cases fj : f j with
    | true =>
      rw [fj] at hyp
      wp_walk
      rw [cast]
      exact ⟨plainId_quiet plain_eq_loop _, codeAny_builtin entry_eq_loop (by
        rw [Around.under_plainId plain_eq_loop _]
        exact ih (j + 1) (by omega) A R _ ⟨at1, at2, eqs, by simpa using hyp⟩)⟩
    | false =>
      rw [fj] at hyp
      wp_walk using wpAny_loadPart' at1, wpAny_loadPart' at2
      rw [is1, is2]
      wp_walk
      simpa using hyp
theorem neM_list (p q : Addr) (us vs : Array Value) (m m2 : Nat) (d1 d2 : Option Addr) (z1 z2 : Array (Option Value)) (same : us.size = vs.size) (f : Nat → Bool) :
    MeetsIn prog w (Builtin.«list.__ne__» ⟨[.ref p, .ref q], []⟩)
      (fun A R t => t.heap.get? p = some { cls := .type "list", dict := d1, data := .seq us m, slots := z1 } ∧ t.heap.get? q = some { cls := .type "list", dict := d2, data := .seq vs m2, slots := z2 } ∧
        (∀ c (h1 : c < us.size) (h2 : c < vs.size), EqP prog w A.in1 t us[c] vs[c] (f c)) ∧
        R (.ok (.ret (.bool (!(List.range us.size).all f)))) t) := by
  intro A R t hyp
  obtain ⟨hp, g, dd, tk, os⟩ := t; obtain ⟨at1, at2, eqs, hyp⟩ := hyp
  have sub := AutoSeq1.sub_list_list
  have szs : ¬ (us.size != vs.size) = true := by simp [same]
  wp_walk using wpAny_loadPart' at1, wpAny_loadPart' at2
  exact ⟨plainId_quiet plain_eq_loop _, codeAny_builtin entry_eq_loop (by
    rw [Around.under_plainId plain_eq_loop _]
    exact neM_loop p q us vs m m2 d1 d2 z1 z2 same f _ 0 rfl A R _ ⟨at1, at2, eqs, by simpa using hyp⟩)⟩
theorem neM_lists {A : Around} {t : Shared} {p q : Addr} {us vs : Array Value} {f : Nat → Bool} (hp : t.heap.IsList p us) (hq : t.heap.IsList q vs) (same : us.size = vs.size) (un : A.units < cLine)
    (eqs : ∀ c (h1 : c < us.size) (h2 : c < vs.size), EqP prog w A.in1 t us[c] vs[c] (f c)) (E Q : Value → Shared → Prop) (fin : Q (.bool (!(List.range us.size).all f)) t) : wpAny (model prog w) A (richCompare .NotEq (.ref p) (.ref q)) Q E t := by
  obtain ⟨⟨c1, e1, da1, s1⟩, ob1, cl1, m1, dt1⟩ := id hp
  obtain ⟨⟨c2, e2, da2, s2⟩, ob2, cl2, m2, dt2⟩ := id hq
  simp only at cl1 dt1 cl2 dt2
  subst cl1 dt1 cl2 dt2
  have ty1 : t.TypeIs (.ref p) "list" := ⟨_, ob1, rfl⟩
  have ty2 : t.TypeIs (.ref q) "list" := ⟨_, ob2, rfl⟩
  exact wpAny_richCompare_same_room (op := .NotEq) ty1 ty2 F.slot_list_ne (call_meetsIn F.slot_list_ne ty1 F.entry_list_ne (F.args_list_ne_2 _ _) (neM_list p q us vs m1 m2 e1 e2 s1 s2 same f)
    ⟨ob1, ob2, eqs, show Value.bool (!(List.range us.size).all f) ≠ Value.notImplemented ∧ Q (.bool (!(List.range us.size).all f)) t from ⟨(fun x => nomatch x), fin⟩⟩) un
end
end PySem.SeqAt
namespace Ev
open PySem L2
variable [WW]
section
variable {X : Cx} {pins : List (Addr × Obj)} {σ : St} {H : Hp} {s : Shared} {av : Addr → Prop}
theorem eqb_self {prog : Program} {w : World} {A : Around} {t : Shared} {p : Addr} : SeqAt.EqP prog w A t (.ref p) (.ref p) true := fun E Q hq => by
  unfold eqBool
  refine wpAny_holding ?_
  rw [if_pos (by simp only [beq_self_eq_true])]
  exact wpAny_bind (wpAny_rule (wpAny_pure hq))
theorem row_fz {x : Str} {v : V} {ks : List Key} {ts : List T} (h : Fz X.K H av (.lst [.str x, .nd (.dct ks) ts]) v) : ∃ a d kvs, v = .ref a ∧ SqL X.K H a [.str x, .ref d] ∧ Rd H d (.dK kvs) ∧ kvs.map (·.1) = ks ∧ FzL X.K H av ts (kvs.map (·.2)) := by
  obtain ⟨a, xs, rfl, ha, _, u1, r1, rfl, e1, u2, r2, rfl, e2, e3⟩ := h
  cases (show u1 = V.str x from e1)
  cases (show r2 = [] from e3)
  obtain ⟨ad, zs, o, rfl, at_, _, no, hl⟩ := e2
  obtain ⟨kvs, rfl, c1, c2, _⟩ := no.dct rfl
  exact ⟨a, ad, kvs, rfl, .inl ha, at_.rd, c1, c2 ▸ hl⟩
theorem dict_eq {k : Nat} (hr : Room (k + 1) X.A) (I : Inv X pins σ H s) {d e : Addr} {k1 k2 : List (Key × V)} {ks1 ks2 : List Key} {t1 t2 : List T} (h1 : Rd H d (.dK k1)) (h2 : Rd H e (.dK k2)) (c1 : k1.map (·.1) = ks1) (f1 : FzL X.K H av t1 (k1.map (·.2)))
    (c2 : k2.map (·.1) = ks2) (f2 : FzL X.K H av t2 (k2.map (·.2))) (hl : ks1.length = ks2.length) (hh : hitsT ks2 t2 ks1 t1 = some true) (hu : X.A.in1.in1.units + 64 < cLine) : SeqAt.EqP X.prog X.w X.A.in1 s (.ref d) (.ref e) true := by
  by_cases q : d = e
  · subst q
    exact eqb_self
  · refine SeqAt.eqP_refs q fun E Q hq => ?_
    obtain ⟨ya, va, ra, da⟩ := dk_rd I h1
    obtain ⟨yb, vb, rb, db⟩ := dk_rd I h2
    have same : va.length = vb.length := by
      rw [← ra.length, ← rb.length, ← List.length_map (f := (·.1)) (as := k1), ← List.length_map (f := (·.1)) (as := k2), c1, c2, hl]
    refine PySem.W.keq_eq (knd := mixKind X.prog X.w) (r := true) ya yb da db hr.in1.units0 (fun _ => hits_fz I hu rb c2 f2 ra c1 f1 hh) ?_
    rw [same]
    simpa using hq
theorem one_hit (k i : Int) : hitsT [.inl k] [.int i] [.inl k] [.int i] = some true := by
  have e1 : getN [Sum.inl k] [T.int i] (Sum.inl k : Key) = some (T.int i) := by simp [getN]
  have e2 : eqT (.int i) (.int i) = some true := by
    show (if (SeqAt.shaped (.int i) && SeqAt.shaped (.int i)) = true then some (PyData.eqv (.int i) (.int i)) else none) = _
    simp [SeqAt.shaped, PyData.eqv, PyData.canLay0, PyData.depth]
  unfold hitsT
  rw [e1]
  show (eqT (.int i) (.int i)).bind (fun e => (hitsT [.inl k] [.int i] [] []).map (e && ·)) = _
  rw [e2]
  rfl
theorem op_neE {k : Nat} (hr : Room (k + 1) X.A) (hu : X.A.units + 64 < cLine) : OpR X (compareOp .NotEq) (rP2 X.K fun a b => (neET a b).map fun k => .val (.bl k)) := by
  intro pins s σ H x y v u Q I rx ry h
  obtain ⟨av, tx, ty, w, hx, hy, e, q⟩ := h
  cases ec : cmpT .NotEq tx ty with
  | some b =>
    refine cmp_all hu .NotEq pins s σ H x y v u Q I rx ry ⟨av, tx, ty, w, hx, hy, ?_, q⟩
    have : neET tx ty = some b := by
      unfold neET
      rw [ec]
    have e3 : (neET tx ty).map (fun k => W.val (.bl k)) = some w := e
    rw [this] at e3
    show (cmpT .NotEq tx ty).map (fun b => W.val (.bl b)) = some w
    rw [ec]
    exact e3
  | none =>
    have e2 : ((match (generalizing := false) tx, ty with
      | .lst [.str x, .nd (.dct []) []], .lst [.str y, .nd (.dct []) []] => some (!decide (x = y))
      | .lst [.str x, .nd (.dct [.inl k]) [.int i]], .lst [.str y, .nd (.dct [.inl l]) [.int j]] => if decide (k = l) && decide (i = j) then some (!decide (x = y)) else none
      | _, _ => (none : Option Bool)).map fun k => W.val (.bl k)) = some w := by
      have : neET tx ty = (match (generalizing := false) tx, ty with
        | .lst [.str x, .nd (.dct []) []], .lst [.str y, .nd (.dct []) []] => some (!decide (x = y))
        | .lst [.str x, .nd (.dct [.inl k]) [.int i]], .lst [.str y, .nd (.dct [.inl l]) [.int j]] => if decide (k = l) && decide (i = j) then some (!decide (x = y)) else none
        | _, _ => none) := by
        unfold neET
        rw [ec]
        try rfl
      have e3 : (neET tx ty).map (fun k => W.val (.bl k)) = some w := e
      rw [this] at e3
      exact e3
    clear e ec
    have rows : ∀ {x1 x2 : Str} {k1 k2 : List Key} {t1 t2 : List T}, Fz X.K H av (.lst [.str x1, .nd (.dct k1) t1]) x → Fz X.K H av (.lst [.str x2, .nd (.dct k2) t2]) y → k1.length = k2.length → hitsT k2 t2 k1 t1 = some true → Q (.bl (!decide (x1 = x2))) H →
        wpAny (model X.prog X.w) X.A (compareOp .NotEq v u) (EP X pins σ Q) X.xe s := by
      intro x1 x2 k1 k2 t1 t2 hx hy hl hh fin
      obtain ⟨a, d, kv1, rfl, s1, d1, c1, f1⟩ := row_fz hx
      obtain ⟨b, f, kv2, rfl, s2, d2, c2, f2⟩ := row_fz hy
      cases rx
      cases ry
      obtain ⟨its, r1, p1, _⟩ := I.list s1
      obtain ⟨jts, r2, p2, _⟩ := I.list s2
      obtain ⟨v1, v2, rfl, a1, a2⟩ := vals2 r1
      obtain ⟨w1, w2, rfl, b1, b2⟩ := vals2 r2
      obtain ⟨t1, rfl⟩ := a1
      obtain ⟨t2, rfl⟩ := b1
      cases a2
      cases b2
      refine SeqAt.neM_lists (f := fun j => if j = 0 then x1 == x2 else true) p1.isList p2.isList rfl hr.units0 (fun c h1 h2 => ?_) _ _ ?_
      · match c, h1 with
        | 0, _ => exact (SeqAt.EqAt.str_str x1 t1 x2 t2).eqP
        | 1, _ => exact dict_eq hr I d1 d2 c1 f1 c2 f2 hl hh (by show X.A.units + 1 + 1 + 64 < cLine; have := hr.un; omega)
      · refine ⟨.bl (!decide (x1 = x2)), H, I, ?_, fin⟩
        show Value.bool _ = Value.bool _
        congr 1
        by_cases z : x1 = x2 <;> simp [z]
    split at e2
    · cases e2
      exact rows hx hy rfl rfl (q (.bl _) H [] (Mk.bl _))
    · rename_i x1 k i x2 l j
      by_cases hkl : (decide (k = l) && decide (i = j)) = true
      · rw [if_pos hkl] at e2
        cases e2
        rw [Bool.and_eq_true, decide_eq_true_eq, decide_eq_true_eq] at hkl
        obtain ⟨h1, h2⟩ := hkl
        subst h1 h2
        exact rows hx hy rfl (one_hit k i) (q (.bl _) H [] (Mk.bl _))
      · rw [if_neg hkl] at e2; cases e2
    · cases e2
end
section
variable {X : Cx} {g : Cfg} {d : Nat} {tx : Tx} {pos : Pos} {a b : Expr} {ia ib : E}
theorem snd_neE {k : Nat} (hr : Room (k + 1) X.A) (hu : X.A.units + 64 < cLine) (ha : PE X a (tE X.K g ia)) (hb : PE X b (tE X.K g ib)) (hm : behindInMarks .NotEq b = false) : PE X (.Compare a [.NotEq] [b] pos) (tE X.K g (.neE ia ib)) :=
  PE.imp (pe_cmpR (op_neE hr hu) ha hb hm) fun σ H Q h => two_ev (f := fun a b => (neET a b).map fun b => .val (.bl b)) (fun env => rfl) h
end
end Ev
namespace Ev
open PySem L2
variable [WW]
theorem e_neE {X : Cx} {g : Cfg} {d : Nat} {tx : Tx} {pos : Pos} {a b : Expr} {ia ib : E} (cx : Ct X g d tx) (ha : PE X a (tE X.K g ia)) (hb : PE X b (tE X.K g ib)) (hm : behindInMarks .NotEq b = false := by rfl) : PE X (.Compare a [.NotEq] [b] pos) (tE X.K g (.neE ia ib)) := snd_neE cx.room cx.un ha hb hm
end Ev
namespace Ev
open PySem L2 HandSPX
variable [WW]
abbrev CxB (X : Cx) (s : Shared) (H : Hp) (scope : Scope) (ce : PySem.Env) (fp : List Addr) (xe : Value → Shared → Prop) : Cx := { X.blk s H scope ce fp with xe := xe }
end Ev
namespace Ev
open PySem L2
variable [WW]
section
variable {X : Cx} {g : Cfg} {d : Nat} {tx : Tx} {ks : List Nat} {pos p0 p1 p2 apos cpos : Pos} {a b e : Expr} {ia ib : E} {c nm : Str} {k f : Nat} {fa : Addr}
inductive FP (X : Cx) (g : Cfg) : List Expr → Es → List TE → Prop where
  | nil : FP X g [] .nil []
  | con {z : Str} {j : Nat} {p0 : Pos} {es : List Expr} {is : Es} {ts : List TE} (r : FP X g es is ts) : FP X g (.Constant (.str z) j p0 :: es) (.cons (.str z) is) (tC (.str z) :: ts)
  | fmt {a : Expr} {ia : E} {p0 : Pos} {es : List Expr} {is : Es} {ts : List TE} (h : PE X a (tE X.K g ia)) (r : FP X g es is ts) : FP X g (.FormattedValue a (-1) none p0 :: es) (.cons ia is) (tFmt (tE X.K g ia) :: ts)
theorem FP.run {es : List Expr} {is : Es} {ts : List TE} (h : FP X g es is ts) : ∀ (acc : Str) {Rt : Addr → Prop} {env : Env} {A : List Addr} {σ : St} {H : Hp} {Q : VK}, acc.length ≤ 16777216 → Rl X.K Rt H σ env A → Post X.K g (PO1 X.K) Rt σ H A (evF g.G g.C is acc env) Q →
    tJs ts acc σ H fun out H1 => Q (.str out) H1 := by
  induction h with
  | nil =>
    intro acc Rt env A σ H Q _ rl p
    exact p (.str acc) H A [] (rl.sx) ⟨rfl, rfl⟩
  | @con z j p0 es is ts r ih =>
    intro acc Rt env A σ H Q hl rl p
    have p2 : Post X.K g (PO1 X.K) Rt σ H A (match fpT (.str z) with
      | some x => if decide ((acc ++ x).length ≤ 16777216) = true then evF g.G g.C is (acc ++ x) env else .no
      | none => .no) Q := p
    by_cases c : decide (z.length ≤ 16777216) = true
    case neg => rw [show fpT (.str z) = none from if_neg c] at p2; exact p2.elim
    rw [show fpT (.str z) = some z from if_pos c] at p2
    have p3 : Post X.K g (PO1 X.K) Rt σ H A (if decide ((acc ++ z).length ≤ 16777216) = true then evF g.G g.C is (acc ++ z) env else .no) Q := p2
    by_cases cc : decide ((acc ++ z).length ≤ 16777216) = true
    case neg => rw [if_neg cc] at p3; exact p3.elim
    rw [if_pos cc] at p3
    have c2 := of_decide_eq_true cc
    exact ⟨z, rfl, by rw [sizeLine_eq]; exact c2, ih (acc ++ z) c2 rl p3⟩
  | @fmt a ia p0 es is ts h r ih =>
    intro acc Rt env A σ H Q hl rl p
    refine ⟨Rt, env, A, rl, Post.seq p fun w e1 v H1 A1 B1 s1 o1 p1 => ?_⟩
    have fz := s1.fz0 o1
    have go : ∀ z, Post X.K g (PO1 X.K) Rt σ H A (if decide ((acc ++ z).length ≤ 16777216) = true then evF g.G g.C is (acc ++ z) e1 else .no) Q → ∃ y : Str, V.str z = .str y ∧ (acc ++ y).length ≤ sizeLine ∧ tJs ts (acc ++ y) σ H1 fun out H1 => Q (.str out) H1 := by
      intro z p3
      by_cases cc : decide ((acc ++ z).length ≤ 16777216) = true
      case neg => rw [if_neg cc] at p3; exact p3.elim
      rw [if_pos cc] at p3
      have c2 := of_decide_eq_true cc
      exact ⟨z, rfl, by rw [sizeLine_eq]; exact c2, ih (acc ++ z) c2 s1.drop0.rl0 (Post.shift s1.drop0 p3)⟩
    cases e : w.fz with
    | str y =>
      rw [e] at fz p1
      cases (show v = V.str y from fz)
      by_cases c : decide (y.length ≤ 16777216) = true
      case neg =>
        have p2 : Post X.K g (PO1 X.K) Rt σ H A (match fpT (.str y) with
          | some x => if decide ((acc ++ x).length ≤ 16777216) = true then evF g.G g.C is (acc ++ x) e1 else .no
          | none => .no) Q := p1
        rw [show fpT (.str y) = none from if_neg c] at p2; exact p2.elim
      have p2 : Post X.K g (PO1 X.K) Rt σ H A (match fpT (.str y) with
        | some x => if decide ((acc ++ x).length ≤ 16777216) = true then evF g.G g.C is (acc ++ x) e1 else .no
        | none => .no) Q := p1
      rw [show fpT (.str y) = some y from if_pos c] at p2
      exact .inl ⟨y, rfl, by rw [sizeLine_eq]; exact of_decide_eq_true c, go y p2⟩
    | int i =>
      rw [e] at fz p1
      cases (show v = V.int i from fz)
      have p2 : Post X.K g (PO1 X.K) Rt σ H A (match fpT (.int i) with
        | some x => if decide ((acc ++ x).length ≤ 16777216) = true then evF g.G g.C is (acc ++ x) e1 else .no
        | none => .no) Q := p1
      by_cases c : decide (i.natAbs.log2 < 1920) = true
      case neg => rw [show fpT (.int i) = none from if_neg c] at p2; exact p2.elim
      rw [show fpT (.int i) = some (toString i) from if_pos c] at p2
      exact .inr ⟨i, rfl, of_decide_eq_true c, go (toString i) p2⟩
    | _ => rw [e] at p1; exact p1.elim
theorem Ct.nox (c : Ct X g d tx) : Ct X.nox g.mute d tx :=
  ⟨c.calm, c.nd, c.un, takes0, c.room, c.fn, c.gl, c.bl, c.fc, c.gc, c.mks, c.ms, c.xq, c.xs, c.kw, c.cw⟩
end
end Ev
namespace Ev
open PySem L2
variable [WW]
section
variable {K : PySem.W.Frag} {Rt : Addr → Prop} {H H1 H2 : Hp} {σ σo : St} {env1 outs : Env} {A A1 A2 B1 B2 F : List Addr} {av : Addr → Prop}
theorem OwnL.at2 : ∀ (ws : List W) (xs : List V) (D : List Addr) (n : Nat) (u : W), OwnL K H av ws xs D → ws[n]? = some u → ∃ v' D1 Du D2, D = D1 ++ (Du ++ D2) ∧ xs[n]? = some v' ∧ Own K H av u v' Du ∧
    ∀ H' av' u' Du', (∀ b o, KN H b o → (b ∈ D1 ++ D2 ∨ ¬ av b) → KN H' b o) → (∀ b xs, Rd H b (.tup xs) → Rd H' b (.tup xs)) → (∀ b, av' b → av b ∨ H b = none) → Own K H' av' u' v' Du' → OwnL K H' av' (ws.set n u') xs (D1 ++ (Du' ++ D2))
  | [], _, _, _, _, _, e => by simp at e
  | x :: ws, xs, D, 0, u, h, e => by
    obtain ⟨v', r, B1, B2, rfl, rfl, h1, h2⟩ := h
    have e' : x = u := by simpa using e
    subst e'
    exact ⟨v', [], B1, B2, rfl, rfl, h1, fun H' av' u' Du' keep tups hav ow => ⟨v', r, Du', B2, rfl, rfl, ow, OwnL.mono ws r B2 (fun b o q c => keep b o q (c.imp (fun z => z) id)) tups hav h2⟩⟩
  | x :: ws, xs, D, n + 1, u, h, e => by
    obtain ⟨v', r, B1, B2, rfl, rfl, h1, h2⟩ := h
    obtain ⟨z, D1, Du, D2, rfl, g1, g2, g3⟩ := OwnL.at2 ws r B2 n u h2 (by simpa using e)
    refine ⟨z, B1 ++ D1, Du, D2, by simp only [List.append_assoc], by simpa using g1, g2, fun H' av' u' Du' keep tups hav ow => ?_⟩
    refine ⟨v', r, B1, D1 ++ (Du' ++ D2), rfl, by simp only [List.append_assoc], Own.mono x v' B1 (fun b o q c => keep b o q (c.imp (fun z => by simp only [List.mem_append]; exact .inl (.inl z)) id)) tups hav h1, g3 H' av' u' Du' (fun b o q c => keep b o q (c.imp (fun z => ?_) id)) tups hav ow⟩
    simp only [List.mem_append] at z ⊢
    rcases z with z | z
    · exact .inl (.inr z)
    · exact .inr z
end
end Ev
namespace Ev
open PySem PySem.W PySem.Calls PyProof.Rows HandSHeadRun
variable [WW]
def RunL (r : OpenRow) (M : Nat) (w : World) : Prop :=
  ∀ os : OsState, (endF (stepQ (denQ tabQ) r.prog w) M r.prog w os).map (fun s => looksF r.prog (boot_heap w.params) s.abs) = some true
def RunS (r : OpenRow) (q : Program) (M : Nat) (loose : List PySem.Str) (w : World) : Prop :=
  ∀ os : OsState, (endF (stepQ (denQ tabQ) r.prog w) M r.prog w os).map (fun s => seenQ q loose (importedModules r.prog.main.body) (fun s => xlAt q [] s && recOk r.toRowW.records s) s.abs) = some (openGood q loose)
def RunX (r : OpenRow) (xd : List XD) (M : Nat) (w : World) : Prop :=
  ∀ os : OsState, (endF (stepQ (denQ tabQ) r.prog w) M r.prog w os).map (fun s => xd.all fun f => f.ok (He.frG (getT s) (asB (getT s) 5))) = some true
def RunY (r : OpenRow) (fn : List He5.DefA) (M : Nat) (w : World) : Prop :=
  ∀ os : OsState, (endF (stepQ (denQ tabQ) r.prog w) M r.prog w os).map (fun s => fn.map fun d => He5.fnA (He.frG (getT s) (asB (getT s) 5)) (d.at_ (He.frG (getT s) (asB (getT s) 5)))) = some (fn.map He5.DefA.val)
def RunU (r : OpenRow) (fa : List Fb) (xd : List XD) (M : Nat) (w : World) : Prop :=
  ∀ os : OsState, (endF (stepQ (denQ tabQ) r.prog w) M r.prog w os).map (fun s => ((tabsOf fa).map (fun t => He.dicW (He.frG (getT s) (asB (getT s) 5)) (He.ga (He.frG (getT s) (asB (getT s) 5)) t.1)), xd.map fun d => xnW (He.frG (getT s) (asB (getT s) 5)) d.D)) = some ((tabsOf fa).map (fun t => some (He.keysIn w.params t.2)), xd.map XD.val)
end Ev
namespace Ev
open PySem
instance (priority := low) WW.any : WW := { w := { draws := fun _ _ => 0, params := { strHash := fun _ => 0, shareClass := id, mergeTok := id, idOf := fun _ => 0, idOfShared := fun _ _ => 0, followText := fun _ => true, idOfImm := fun _ => 0 } } }
end Ev
namespace Ev
open PySem L2 PyProof.Rows
variable [WW]
section
variable {X : Cx} {pins : List (Addr × Obj)} {σ : L2.St} {H : Hp} {s : Shared} {av : Addr → Prop}
mutual
theorem nk_is (I : Inv X pins σ H s) : ∀ (t : T) (v : V) (u : Value) (k : NestedKey), Fz X.K H av t v → RelV v u → nkT t = some k → NestedIs s.heap k u
  | .non, v, u, k, h, r, e => by
    cases (show v = .non from h)
    cases (show u = Value.none from r)
    cases e
    exact .none
  | .bl b, v, u, k, h, r, e => by
    cases (show v = .bl b from h)
    cases (show u = Value.bool b from r)
    cases e
    exact .bool rfl
  | .int i, v, u, k, h, r, e => by
    cases (show v = .int i from h)
    obtain ⟨t, rfl⟩ := r
    cases e
    exact .int _ _
  | .str x, v, u, k, h, r, e => by
    cases (show v = .str x from h)
    obtain ⟨t, rfl⟩ := r
    cases e
    exact .text _ _
  | .tup ts, v, u, k, h, r, e => by
    obtain ⟨a, xs, rfl, hs, hl⟩ := h
    cases (show u = Value.ref a from r)
    obtain ⟨its, rv, ⟨o, ho, hc, n, hd⟩, _⟩ := I.tuple hs
    obtain ⟨ks, e1, e2⟩ := Option.map_eq_some_iff.mp (show (nksT ts).map NestedKey.tup = some k from e)
    subst e2
    exact .tup ho hc hd (nks_is I ts xs its ks hl rv e1)
  | .ty _, v, u, k, h, r, e => by cases e
  | .gl _, v, u, k, h, r, e => by cases e
  | .lst _, v, u, k, h, r, e => by cases e
  | .nd _ _, v, u, k, h, r, e => by cases e
  | .set _, v, u, k, h, r, e => by cases e
  | .scr _, v, u, k, h, r, e => by cases e
  | .sol ts, v, u, k, h, r, e => by
    obtain ⟨a, xs, o, rfl, hs, _, _, hl⟩ := h
    cases (show u = Value.ref a from r)
    obtain ⟨its, rv, ⟨o, ho, hc, n, hd⟩, _⟩ := I.tuple (show SqT X.K H a xs from .inl (.inr ⟨o, hs⟩))
    obtain ⟨ks, e1, e2⟩ := Option.map_eq_some_iff.mp (show (nksT ts).map NestedKey.tup = some k from e)
    subst e2
    exact .tup ho hc hd (nks_is I ts xs its ks hl rv e1)
  | .dn _, v, u, k, h, r, e => by cases e
theorem nks_is (I : Inv X pins σ H s) : ∀ (ts : List T) (vs : List V) (us : List Value) (ks : List NestedKey), FzL X.K H av ts vs → Vals vs us → nksT ts = some ks → NestedAll s.heap ks us
  | [], vs, us, ks, h, r, e => by
    cases (show vs = [] from h)
    cases r
    cases e
    exact .nil
  | t :: ts, vs, us, ks, h, r, e => by
    obtain ⟨v, q, rfl, h1, h2⟩ := h
    cases r with
    | cons r1 r2 =>
      obtain ⟨k, e1, e2⟩ := Option.bind_eq_some_iff.mp (show ((nkT t).bind fun k => (nksT ts).map (k :: ·)) = some ks from e)
      obtain ⟨ks', e3, e4⟩ := Option.map_eq_some_iff.mp e2
      subst e4
      exact .cons (nk_is I t v _ k h1 r1 e1) (nks_is I ts q _ ks' h2 r2 e3)
end
end
end Ev
namespace Ev
open PySem L2 PyProof.Rows
variable [WW]
def Itdn (d : Addr) (ob : Obj) (xs : List (NestedKey × Addr × Value)) : L2.It :=
  ⟨fun i H => H d = some (.ext (DN d ob xs)) ∧ i < xs.length, fun i H x H' => H' = H ∧ ∃ y, xs[i]? = some y ∧ x = V.ref y.2.1, fun i H => H d = some (.ext (DN d ob xs)) ∧ xs.length ≤ i⟩
section
variable {X : Cx} {pins : List (Addr × Obj)} {σ : L2.St} {H : Hp} {s : Shared} {d : Addr} {ob : Obj} {xs : List (NestedKey × Addr × Value)}
def iDn (td : TE) : TI := fun σ H R => td σ H fun x H1 => ∃ d ob xs, x = .ref d ∧ H1 d = some (.ext (DN d ob xs)) ∧ (d == sysModules) = false ∧ R (Itdn d ob xs) H1
end
end Ev
namespace Ev
open PySem L2 PyProof.Rows
variable [WW]
theorem FzL.snoc {K : PySem.W.Frag} {H : Hp} {av : Addr → Prop} {t : T} {v : V} : ∀ {us : List T} {vs : List V}, FzL K H av us vs → Fz K H av t v → FzL K H av (us ++ [t]) (vs ++ [v])
  | [], vs, h, q => by
    cases (show vs = [] from h)
    exact ⟨v, [], rfl, q, rfl⟩
  | u :: us, vs, h, q => by
    obtain ⟨x, r, rfl, h1, h2⟩ := h
    exact ⟨x, r ++ [v], rfl, h1, FzL.snoc h2 q⟩
end Ev
namespace Ev
open PySem L2 PyProof.Rows
variable [WW]
def locS (scope : Scope) (x : Str) : Bool := scope.names.all (fun y => decide (y.2 = .local) && decide (scope.names.lookup y.1 = some .local)) && decide (scope.names.lookup x = some .local)
section
variable {X : Cx} {x : Str} {pk pv pt pos : Pos} {j : Nat} {iter : Expr} {scope : Scope}
def tDcn (K : PySem.W.Frag) (td : TE) : TE := fun σ H Q => td σ H fun v H1 => ∃ a ys ts us av, v = .ref a ∧ (SqL K H1 a ys ∨ SqT K H1 a ys) ∧ FzL K H1 av ts ys ∧ dkL [] [] ts = some us ∧ ts.length < 16777216 ∧
  ∀ d ob xs, H1 d = none → (d == sysModules) = false → nksT us = some (xs.map (·.1)) → FzL K H1 av us (xs.map fun x => V.ref x.2.1) → Q (.ref d) (upd H1 d (.ext (DN d ob xs)))
end
end Ev
namespace Ev
open PySem L2 PyProof.Rows
variable [WW]
theorem isid_or {cs : List Ty} {t : T} {k : Bool} (h : isidT cs t = some k) : (∃ us, t = .dn us ∧ k = cs.any Ty.dict.sub) ∨ isiT cs t = some k := by
  cases t with
  | dn us => exact .inl ⟨us, rfl, (Option.some.inj h).symm⟩
  | _ => exact .inr h
def rIsD (K : PySem.W.Frag) : List V → Hp → VK → Prop := fun xs H Q => rIsiT K xs H Q ∨
  ∃ (a tp : Addr) (ob : Obj) (kvs : List (NestedKey × Addr × Value)) (cs : List V) (us : List Value) (b : Bool), xs = [.ref a, .ref tp] ∧ H a = some (.ext (DN a ob kvs)) ∧ H tp = some (.tup cs) ∧ Paired ClsV cs us ∧ PySem.W.kitAny K (.type "dict") us = some b ∧ Q (.bl b) H
theorem call_isD {X : Cx} : CallR X (.builtin "isinstance") (rIsD X.K) := by
  intro pins s σ H xs us Q I r h
  rcases h with h | ⟨a, tp, ob, kvs, cs, ws, b, rfl, ha, hT, k, e, q⟩
  · exact call_isiT pins s σ H xs us Q I r h
  obtain ⟨u1, u2, rfl, r1, r2⟩ := vals2 r
  cases (show u1 = Value.ref a from r1)
  cases (show u2 = Value.ref tp from r2)
  obtain ⟨its, rv, ⟨o, ho, hc, n, hd⟩, _⟩ := I.tuple (show SqT X.K H tp cs from .inl (.inl hT))
  have ew := ClsV.all k rv
  obtain ⟨⟨e0, P, h0, e1, o', es, ep, e2, ex, _⟩, _⟩ := (show ObjOk X.prog X.w H s.heap a (.ext (DN a ob kvs)) from I.hok a _ ha)
  rw [e1] at e2
  cases e2
  obtain ⟨oc, od, dt, sl⟩ := o
  simp only at hc hd
  subst hc hd ew
  exact PySem.W.kia_tup PySem.W.kitx_dict I.kIn ⟨ob, e0, ex.1⟩ ho e (fun z => nomatch z) fun tk => ⟨.bl b, H, I.tok tk, rfl, q⟩
section
variable {X : Cx} {g : Cfg} {d : Nat} {tx : Tx} {pos p0 p1 p2 p3 : Pos} {a : Expr} {ia : E} {x y : Str}
theorem e_isid2 (cx : Ct X g d tx) (u v : Ty) {kt : Nat} (ha : PE X a (tE X.K g ia)) (hu : u ≠ .non := by decide) (hv : v ≠ .non := by decide) (hg : glB X.env "isinstance" = true := by rfl) (hm : tx.bl.contains "isinstance" = true := by rfl)
    (hgx : glB X.env x = true := by rfl) (hmx : tx.bl.contains x = true := by rfl) (hbx : bootBuiltins x = some (.type u.nm) := by decide +kernel) (hx : okName x = true := by rfl)
    (hgy : glB X.env y = true := by rfl) (hmy : tx.bl.contains y = true := by rfl) (hby : bootBuiltins y = some (.type v.nm) := by decide +kernel) (hy : okName y = true := by rfl)
    (hs : starEach [a, .Tuple [.Name x p1, .Name y p2] kt p3] X.env = (false, eval a X.env) :: starEach [.Tuple [.Name x p1, .Name y p2] kt p3] X.env := by rfl) : PE X (.Call (.Name "isinstance" p0) [a, .Tuple [.Name x p1, .Name y p2] kt p3] [] pos) (tE X.K g (.isid ia [u, v])) :=
  PE.imp (pe_callB (t := tCons (tE X.K g ia) (tCons (tTup (tCons (tC (.ty u.nm)) (tCons (tC (.ty v.nm)) tNil))) tNil)) call_isD (gl_of hg) (cx.bl _ hm) rfl
      (pa_cons ha (pa_cons (pe_tup (pa_cons (pe_bltn (gl_of hgx) (cx.bl _ hmx) hbx rfl (okName_of hx).2.2 (okName_of hx).1) (pa_cons (pe_bltn (gl_of hgy) (cx.bl _ hmy) hby rfl (okName_of hy).2.2 (okName_of hy).1) pa_nil rfl) rfl)) pa_nil rfl) hs) (by decide) (by decide) hs rfl) fun σ H Q ⟨Rt, env, A, rl, p⟩ => by
    refine ⟨Rt, env, A, rl, Post.seq p fun w e1 z H1 A1 B1 s1 o1 p1 => ?_⟩
    obtain ⟨w', ew, p2⟩ := Post.of p1
    obtain ⟨k, ek, e2⟩ := Option.map_eq_some_iff.mp ew
    subst e2
    refine ⟨by rw [sizeLine_eq]; exact (by decide : 2 ≤ 16777216), fun t ht => ?_⟩
    have s2 := s1.drop0.new (o := .tup [.ty u.nm, .ty v.nm]) ht
    have fz := Fz.mono (H' := upd H1 t (.tup [.ty u.nm, .ty v.nm])) (fun b o q _ => q.up (newkeep ht)) (newtups ht) (fun b z => .inl z) _ _ (s1.fz0 o1)
    have ks : ∀ q : Ty, PySem.W.kitAny X.K (.type q.nm) [.type u.nm, .type v.nm] = some ([u, v].any q.sub) := fun q => kit_subs X.K q [u, v] fun c hc => by
      simp only [List.mem_cons, List.not_mem_nil, or_false] at hc
      rcases hc with rfl | rfl
      · exact hu
      · exact hv
    have fin := p2 (.bl k) _ A1 [] s2.drop0 ⟨rfl, rfl⟩
    rcases isid_or ek with ⟨us, et, rfl⟩ | ei
    · rw [et] at fz
      obtain ⟨D, ob, kvs, rfl, hD, _⟩ := fz
      exact .inr ⟨D, t, ob, kvs, _, _, _, rfl, hD, upd_same, .cons (.ty _) (.cons (.ty _) .nil), ks .dict, fin⟩
    · obtain ⟨q, ez, rfl⟩ := Option.map_eq_some_iff.mp (show (tyT w.fz).map (fun y' => [u, v].any y'.sub) = some k from ei)
      exact .inl ⟨z, t, _, .type q.nm, _, _, rfl, upd_same, .cons (.ty _) (.cons (.ty _) .nil), tyX_of fz ez, ks q, fin⟩
end
def tDnd (K : PySem.W.Frag) (tk : TE) : TE := fun σ H Q => ∀ p, H p = none → (p == sysModules) = false → tk σ (upd H p (.dK [])) fun v H2 => H2 p = some (.dK []) ∧ ∃ t k av, keyN t = some k ∧ Fz K H2 av t v ∧
  ∀ ob a, v = .ref a → Q (.ref p) (upd H2 p (.ext (DN p ob [(k, a, .bool true)])))
end Ev
namespace Ev
open PySem L2
variable [WW]
section
variable {X : Cx} {pins : List (Addr × Obj)} {σ : L2.St} {H : Hp} {s : Shared}
theorem tabs_more {Tb : List (Addr × Str)} {P c' : Addr} {q : Str} {ps : Array Value} {pos : Pos} (hT : LamX.Tabs Tb H) (hP : H P = some (.tbl ps)) (ok : TriplesOk ps.toList) (nC : H c' = none) (hu : ∀ p ∈ Tb, p.1 = P → p.2 = q) :
    LamX.Tabs Tb (upd (upd H P (.tbl (ps ++ #[rawInt pos.line, rawInt pos.col, .ref c']))) c' (LamX.CodeO c' q)) := by
  have other : ∀ b o, b ≠ P → H b = some o → upd (upd H P (.tbl (ps ++ #[rawInt pos.line, rawInt pos.col, .ref c']))) c' (LamX.CodeO c' q) b = some o := fun b o n e => by
    rw [upd_ne (ne_of_none e nC), upd_ne n]; exact e
  have code : ∀ a x, H a = some (LamX.CodeO a x) → a ≠ P := fun a x e z => by
    rw [z, hP] at e
    exact LamX.codeO_ne _ (Option.some.inj e).symm
  intro p hp
  obtain ⟨ts, a1, a2, a3⟩ := hT p hp
  by_cases hb : p.1 = P
  · have e1 : ts = ps := by
      rw [hb, hP] at a1
      injection a1 with a1; injection a1 with a1; exact a1.symm
    subst e1
    have eL : (ts ++ #[rawInt pos.line, rawInt pos.col, .ref c']).toList = ts.toList ++ [rawInt pos.line, rawInt pos.col, .ref c'] := by simp
    refine ⟨_, by rw [hb, upd_ne (ne_of_none hP nC), upd_same], by rw [eL]; exact PySem.TriplesOk_snoc _ _ _ _ ok, fun pos' cv hcv => ?_⟩
    rw [eL] at hcv
    refine (LamX.among_app _ ok hcv).elim (fun z => ?_) fun z => ⟨c', z, by rw [hu p hp hb]; exact upd_same⟩
    obtain ⟨a, ea, eh⟩ := a3 pos' cv z
    exact ⟨a, ea, other _ _ (code _ _ eh) eh⟩
  · exact ⟨ts, other _ _ hb a1, a2, fun pos' cv hcv => (a3 pos' cv hcv).elim fun a z => ⟨a, z.1, other _ _ (code _ _ z.2) z.2⟩⟩
structure Grown (Tb : List (Addr × Str)) (H H1 : Hp) : Prop where
  ext : LamX.ExtN H H1
  there : ∀ b, H b ≠ none → H1 b ≠ none
  tabs : LamX.Tabs Tb H1
theorem lam_laid {Tb : List (Addr × Str)} {c P : Addr} {q : Str} {params : Arguments} {body : Expr} {scope : Scope} {pos : Pos} {dV : Value} {E : Value → Shared → Prop} {Q : Value → Shared → Prop} (I : Inv X pins σ H s) (TB : LamX.TabB X.base X.mg c P) (hcode : X.env.code = .ref c)
    (hm : (P, q) ∈ Tb) (hu : ∀ p ∈ Tb, p.1 = P → p.2 = q) (hT : LamX.Tabs Tb H) (hfree : ∀ y ∈ scope.names, y.2 = .free → ∃ c, X.env.cells.lookup y.1 = some c)
    (h : ∀ (f c' : Addr) (doc pm ct : Value) (H1 : Hp) (s' : Shared), Inv X pins σ H1 s' → Grown Tb H H1 → (∀ b o, s.heap.get? b = some o → H b = none → s'.heap.get? b = some o ∧ H1 b = none) → H1 c' = some (LamX.CodeO c' q) →
      s'.heap.get? f = some (PySem.W.kdv_obj "<lambda>" q params (.expr body) scope (cloFrom X.env.cells scope.names []) dV doc pm c' ct) → H1 f = none → f ∉ frs X.stack → Q (.ref f) s') :
    wpAny (model X.prog X.w) X.A (makeTail "<lambda>" q params (.expr body) scope X.env dV .none none pos pos.line) Q E s := by
  obtain ⟨ps, hP, ok, ha⟩ := hT _ hm
  have hP' : s.heap.get? P = some { cls := .none, data := .fields ps } := I.hok P _ hP
  have bP := TB.bm.keeps I.bk
  have far : ∀ f, s.heap.objs.size ≤ f → f ∉ frs X.stack := fun f hf z => by
    rcases List.mem_cons.mp (I.stkSub _ z) with e | e
    · exact absurd (e ▸ I.lt) (Nat.not_lt.mpr hf)
    · exact I.nofs hf e
  cases hc : codeAmong pos ps.toList with
  | some cv =>
    obtain ⟨c', rfl, hco⟩ := ha pos cv hc
    refine PySem.W.kdv_makeTailHit (mg := X.mg) (c := c) (P := P) (ps := ps) (closure_ok hfree) I.ok.glob (I.mod.glob.keeps I.bk) hcode (TB.code.keeps I.bk) hP' ok hc bP fun ct doc h' tk hx hsz => ?_
    have keep : ∀ b o, s.heap.get? b = some o → (h'.push (PySem.W.kdv_obj "<lambda>" q params (.expr body) scope (cloFrom X.env.cells scope.names []) dV doc ((X.mg "__name__").getD .none) c' ct)).get? b = some o := fun b o e => Heap.get?_push_of_some _ (hx b o e)
    exact h h'.objs.size c' doc ((X.mg "__name__").getD .none) ct H _ (I.kept (t' := tk) keep) ⟨LamX.ExtN.refl H, fun _ z => z, hT⟩ (fun b o e n => ⟨keep b o e, n⟩) hco (Heap.get?_push_size _ rfl) (I.hok.fresh hsz) (far _ hsz)
  | none =>
    refine PySem.W.kdv_makeTail (mg := X.mg) (c := c) (P := P) (ps := ps) (closure_ok hfree) I.ok.glob (I.mod.glob.keeps I.bk) hcode (TB.code.keeps I.bk) hP' ok hc TB.gP bP fun c' ct doc h' tk hx hge hlt hrec htb => ?_
    obtain ⟨c2, oc, vs, t, e2, hoc, hd, hv⟩ := hrec
    injection e2 with e2
    subst e2
    have nC : H c' = none := I.hok.fresh hge
    have hsz : s.heap.objs.size ≤ h'.objs.size := Nat.le_trans hge (Nat.le_of_lt hlt)
    have I1 := LamX.inv_table (t' := tk) (more := #[rawInt pos.line, rawInt pos.col, .ref c']) (h' := h'.push (PySem.W.kdv_obj "<lambda>" q params (.expr body) scope (cloFrom X.env.cells scope.names []) dV doc ((X.mg "__name__").getD .none) c' ct)) I hP
      (fun b o hb e => Heap.get?_push_of_some _ (hx b o hb e)) (Heap.get?_push_of_some _ htb) hge ⟨oc, vs, t, Heap.get?_push_of_some _ hoc, hd, hv⟩
    have nP : ∀ b, H b = none → b ≠ P := fun b e z => by rw [z, hP] at e; cases e
    refine h h'.objs.size c' doc ((X.mg "__name__").getD .none) ct _ _ I1 ⟨fun b o e n => ?_, fun b z => ?_, tabs_more hT hP ok nC hu⟩ (fun b o e n => ⟨Heap.get?_push_of_some _ (hx b o (nP b n) e), ?_⟩) upd_same (Heap.get?_push_size _ rfl) ?_ (far _ hsz)
    · have nbP : b ≠ P := fun z => by
        rw [z, hP] at e
        exact n ps (Option.some.inj e).symm
      rw [upd_ne (ne_of_none e nC), upd_ne nbP]
      exact e
    · by_cases e1 : b = c'
      · rw [e1, upd_same]; exact fun y => by cases y
      · rw [upd_ne e1]
        by_cases e2 : b = P
        · rw [e2, upd_same]; exact fun y => by cases y
        · rw [upd_ne e2]; exact z
    · have lt := Heap.lt_size e
      rw [upd_ne (Nat.ne_of_lt (Nat.lt_of_lt_of_le lt hge)), upd_ne (nP b n)]
      exact n
    · rw [upd_ne (Nat.ne_of_gt hlt), upd_ne (Nat.ne_of_gt (Nat.lt_of_lt_of_le (Heap.lt_size hP') hsz))]
      exact I.hok.fresh hsz
end
def BndL (name q : Str) (params : Arguments) (body : Expr) (scope : Scope) (ps : List Str) (us : List Value) : Prop := match us with
  | [] => ps = [] ∧ ∀ (cl : List (Str × Addr)) (doc pm cd ct : Value), bindArgs (PySem.W.kdv_fn name q params (.expr body) scope cl .none doc pm cd ct) ⟨[], []⟩ = pure []
  | us => ∀ (t : Addr) (cl : List (Str × Addr)) (doc pm cd ct : Value), ∃ k, bindArgs (PySem.W.kdv_fn name q params (.expr body) scope cl (.ref t) doc pm cd ct) ⟨[], []⟩ = seqItems? (.ref t) >>= k ∧ k (some us.toArray) = pure (ps.zip us)
def DefAt (h : Heap) (H : Hp) (fs : List Addr) (us : List Value) (dV : Value) : Prop := match us with
  | [] => dV = .none
  | us => ∃ t, dV = .ref t ∧ h.get? t = some (PySem.W.kdv_tup us) ∧ H t = none ∧ t ∉ fs
theorem BndL.to {name q : Str} {params : Arguments} {body : Expr} {scope : Scope} {ps : List Str} {us : List Value} {s : Shared} {H : Hp} {fs : List Addr} {cl : List (Str × Addr)} {dV doc pm cd ct : Value} (b : BndL name q params body scope ps us) (d : DefAt s.heap H fs us dV) :
    BindsTo s (PySem.W.kdv_fn name q params (.expr body) scope cl dV doc pm cd ct) ⟨[], []⟩ (ps.zip us) := by
  cases us with
  | nil =>
    obtain ⟨e, b⟩ := b
    have d : dV = .none := d
    subst d
    rw [List.zip_nil_right]
    exact BindsTo.of_eq (b cl doc pm cd ct)
  | cons u r =>
    obtain ⟨t, e, ht, _, _⟩ := d
    subst e
    obtain ⟨k, h1, h2⟩ := b t cl doc pm cd ct
    exact BindsTo.of_defaults rfl ht rfl h1 h2
section
variable {P : Program} {w : World} {K : PySem.W.Frag} {mg : Str → Option Value} {base : Heap} {A : Around} {outer : List PySem.Env} {s : Shared} {H : Hp} {E : XK} {Q : VK} {N ps fr : List Str} {F : NdefX.NF} {f : Addr} {us : List Value} {vs : List V} {ws : List (Option V)} {k : Nat}
  {name : Str} {params : Arguments} {body : Expr} {dV doc pm ct : Value} {t : TE}
theorem lam_code (S : NdefX.NScope N ps fr F.scope) (hr : Room (k + 1) A) (e0 : Env0 P w K mg base A outer s H) (ho : s.heap.get? f = some (PySem.W.kdv_obj name F.qual params (.expr body) F.scope F.cl dV doc pm F.c ct)) (hc : H F.c = some (LamX.CodeO F.c F.qual))
    (hb : BindsTo s (PySem.W.kdv_fn name F.qual params (.expr body) F.scope F.cl dV doc pm (.ref F.c) ct) ⟨[], []⟩ (ps.zip us)) (C : NdefX.CellsAt F.cl fr ws s.heap H) (r : Vals vs us) (hl : vs.length = ps.length)
    (hbody : Room k (A.deeper (NdefX.envF F f s.heap.objs.size)) → PE (NdefX.ncx (L2.CX P w) P w K mg base N F f A outer s H E) body t) (ht : t (NdefX.startF N vs ws) H Q) :
    codeAny (model P w) A (.call (.ref f) ⟨[], []⟩) (L2.CR (L2.CX P w) outer P w H s Q E) s := by
  have free := e0.mod.nolimit.keeps fun b o e => (e0.bs b o e).1
  refine PySem.W.kla_callFunE hr.depth ho rfl S.co S.gen rfl (NdefX.codeO_at e0.hok hc) (hb _ _ _ _ ?_)
  refine wpAny_newFunctionEnv S.nocell (fun y hy => S.par y.1 (List.of_mem_zip (show (y.1, y.2) ∈ ps.zip us from hy)).1) (fun h1 hns hsb => ⟨free.fresh _ hsb, PySem.W.kla_codeExpr ?_⟩) S.kind
  have J := NdefX.inv_startN (CX := L2.CX P w) (E := E) (f := f) (tk := s.toks + (ps.zip us).length) S hr.hd e0 hl r C hns fun b o e => hsb.extBut b o (Nat.ne_of_lt (Heap.lt_size e)) (Heap.get?_push_of_some _ e)
  exact wpAny_mono ((hbody (hr.deeper _)).run [] _ _ H Q J ht) (fun u s2 ⟨v, H2, J2, rv, q⟩ => ⟨v, H2, J2.os, J2.bare, J2.base, J2.hok, rv, q⟩) fun _ _ z => z
end
theorem cells_later {Y : Cx} {pins : List (Addr × Obj)} {σ : L2.St} {H : Hp} {s : Shared} {cl : List (Str × Addr)} {fr : List Str} {ws : List (Option V)} (C : NdefX.CellsAt cl fr ws Y.s_0.heap Y.H_0) (hex : Y.ex = []) (I : Inv Y pins σ H s) : NdefX.CellsAt cl fr ws s.heap H := by
  have no : ∀ b : Addr, b ∉ Y.ex := fun b z => by rw [hex] at z; cases z
  have kp : ∀ c v, Y.H_0 c = none → Y.s_0.heap.IsCell c v → H c = none ∧ s.heap.IsCell c v := fun c v n ⟨o, ho, hd⟩ => ⟨I.base.free c o ho n (no c), (I.base.any ho n (no c)).elim fun sl e => ⟨_, e, hd⟩⟩
  refine ⟨C.len, fun y c e => ?_, C.inj, fun i y e => ?_⟩
  · obtain ⟨n, v, z⟩ := C.all y c e
    exact ⟨(kp c v n z).1, v, (kp c v n z).2⟩
  · obtain ⟨c, hc, hv⟩ := C.has i y e
    exact ⟨c, hc, fun v ev => (hv v ev).imp fun u q => ⟨q.1, (kp c _ (C.all y c hc).1 q.2).2⟩⟩
theorem pe_lam {Y : Cx} {F : NdefX.NF} {N ps fr : List Str} {f : Addr} {us : List Value} {vs : List V} {ws : List (Option V)} {name a : Str} {params : Arguments} {body : Expr} {dV doc pm ct : Value} {k i : Nat} {W : WX} {t : XK → TE} {p1 p2 : Pos}
    (S : NdefX.NScope N ps fr F.scope) (hr : Room (k + 1) Y.A) (hex : Y.ex = []) (ho : Y.s_0.heap.get? f = some (PySem.W.kdv_obj name F.qual params (.expr body) F.scope F.cl dV doc pm F.c ct)) (hf : Y.H_0 f = none) (hff : f ∉ Y.fs)
    (b : BndL name F.qual params body F.scope ps us) (dA : DefAt Y.s_0.heap Y.H_0 Y.fs us dV) (C : NdefX.CellsAt F.cl fr ws Y.s_0.heap Y.H_0) (r : Vals vs us) (hl : vs.length = ps.length) (tk : Takes Y W)
    (hbody : ∀ (s : Shared) (H : Hp) (E : XK), Room k (Y.A.deeper (NdefX.envF F f s.heap.objs.size)) → PE (NdefX.ncx (L2.CX Y.prog Y.w) Y.prog Y.w Y.K Y.mg Y.base N F f Y.A Y.stack s H E) body (t E))
    (hN : Y.N[i]? = some a) (hv : Vis Y.env.scope a) (hd : (a == ("__debug__" : Str)) = false) (hcd : (a == ("__classdict__" : Str)) = false) :
    PE Y (.Call (.Name a p1) [] [] p2) (fun σ H Q => σ[i]? = some (some (.ref f)) ∧ H F.c = some (LamX.CodeO F.c F.qual) ∧ t (WE W σ) (NdefX.startF N vs ws) H Q) := by
  refine ⟨fun pins s σ H Q I ⟨h1, h2, h3⟩ => wpAny_Call_Name_kw (thn ((pe_var (pos := p1) hN hv hd hcd).run pins s σ H (fun v H1 => v = .ref f ∧ H1 = H) I ⟨.ref f, h1, rfl, rfl⟩) fun u s1 ⟨v, H1, I1, r1, ev, eH⟩ => ?_)⟩
  subst ev eH
  have r1 : u = Value.ref f := r1
  subst r1
  have no : ∀ b : Addr, b ∉ Y.ex := fun b z => by rw [hex] at z; cases z
  have kp : ∀ b o, Y.s_0.heap.get? b = some o → Y.H_0 b = none → b ∉ Y.fs → s1.heap.get? b = some o := fun b o e n z => I1.base.keep b o e n z (no b)
  have ho1 := kp f _ ho hf hff
  have dA1 : DefAt s1.heap Y.H_0 Y.fs us dV := by
    cases us with
    | nil => exact dA
    | cons u r =>
      obtain ⟨t, e, q1, q2, q3⟩ := dA
      exact ⟨t, e, kp t _ q1 q2 q3, q2, q3⟩
  refine PySem.W.callWith_F0 (first := []) ⟨_, _, _, _, ho1⟩ (wpAny_call (res_of I1 (passAt tk σ) ?_))
  exact lam_code S hr I1.env0 ho1 h2 (b.to dA1) (cells_later C hex I1) r hl (fun hr2 => hbody s1 H1 (WE W σ) hr2) h3
end Ev
namespace Ev
open PySem L2
variable [WW]
section
variable {K : PySem.W.Frag} {H H1 : Hp} {av : Addr → Prop} {Rt : Addr → Prop} {A A1 B : List Addr} {σ σ2 : St} {env env1 : Env}
theorem RE.hide : ∀ (env : Env) (σ : St) (A : List Addr), RE K H av env σ A → RE K H av (hideE env) σ []
  | [], _, _, h => ⟨h.1, rfl⟩
  | none :: env, _, A, h => by
    obtain ⟨o, r, rfl, h⟩ := h
    exact ⟨o, r, rfl, RE.hide env r A h⟩
  | some w :: env, _, A, h => by
    obtain ⟨v, r, B, D, rfl, rfl, ow, h⟩ := h
    cases w with
    | val t => exact ⟨v, r, [], [], rfl, rfl, ⟨rfl, ow.2⟩, RE.hide env r D h⟩
    | lst ws => exact ⟨some v, r, rfl, RE.hide env r D h⟩
    | nd n ws => exact ⟨some v, r, rfl, RE.hide env r D h⟩
    | set ts => exact ⟨some v, r, rfl, RE.hide env r D h⟩
theorem RE.pick1 (h : RE K H av env σ []) : ∀ is : List Nat, RE K H av (is.map fun i => (env[i]?).getD none) (is.map (NdefX.slotAt σ)) []
  | [] => ⟨rfl, rfl⟩
  | i :: is => by
    have ih := RE.pick1 h is
    rw [List.map_cons, List.map_cons]
    cases e : env[i]? with
    | none => exact ⟨_, _, rfl, ih⟩
    | some o =>
      cases o with
      | none => exact ⟨_, _, rfl, ih⟩
      | some w =>
        obtain ⟨A1, B, A2, eA, _, hw, _⟩ := RE.slot env σ [] i h (List.getElem?_eq_some_iff.mp e).1
        obtain ⟨v, ev, ow⟩ := hw w e
        have eB : B = [] := by
          cases B with
          | nil => rfl
          | cons b r => cases A1 <;> cases eA
        subst eB
        have es := NdefX.slotAt_of ev
        rw [es]
        exact ⟨v, _, [], [], rfl, rfl, ow, ih⟩
theorem RE.defs {ds : List T} {vs : List V} {r : Env} {τ : St} (h : RE K H av r τ []) : ∀ (ds : List T) (vs : List V), FzL K H av ds vs → RE K H av (ds.map (fun t => some (.val t)) ++ r) (vs.map some ++ τ) []
  | [], _, e => by
    have e : _ = [] := e
    subst e
    exact h
  | t :: ds, _, e => by
    obtain ⟨v, u, rfl, f, e⟩ := e
    exact ⟨v, _, [], [], rfl, rfl, ⟨rfl, f⟩, RE.defs (ds := ds) (vs := u) h ds u e⟩
def capR (m : Bool) (A : List Addr) (Rt : Addr → Prop) : Addr → Prop := if m then Rt else RtB A Rt
theorem capR_rt {m : Bool} {b : Addr} (h : Rt b) : capR m A Rt b := by
  unfold capR
  split
  · exact h
  · exact .inr h
theorem capR_or {m : Bool} {b : Addr} (h : capR m A Rt b) : b ∈ A ∨ Rt b := by
  unfold capR at h
  split at h
  · exact .inr h
  · exact h
theorem Rl.cap {m : Bool} {ds : List T} {is : List Nat} {vs : List V} {N : List Str} (rl : Rl K Rt H σ env A) (hd : ∀ H av, FzL K H av ds vs) (hn : N.length = vs.length + is.length) : Rl K (capR m A Rt) H (NdefX.startF N vs (is.map (NdefX.slotAt σ))) (capE m ds is env) [] := by
  have key : RE K H (Av [] (capR m A Rt)) (if m then lendE env else hideE env) σ [] := by
    cases m with
    | true => exact rl.lend.re
    | false => exact RE.mono _ _ _ (fun _ _ q _ => q) (fun _ _ q => q) (fun b z => .inl (z.elim (fun z => by cases z) id)) (RE.hide env σ A rl.re)
  have es : NdefX.startF N vs (is.map (NdefX.slotAt σ)) = vs.map some ++ is.map (NdefX.slotAt σ) := by
    unfold NdefX.startF
    rw [List.length_map, show N.length - vs.length - is.length = 0 by omega]
    simp
  refine ⟨List.nodup_nil, (fun b hb => by cases hb), fun b z => ?_, ?_, rl.tb⟩
  · rcases capR_or z with z | z
    · obtain ⟨o, q, _⟩ := RE.there env σ A rl.re b z
      rw [q]; exact fun y => by cases y
    · exact rl.th b z
  · rw [es]
    exact RE.defs (ds := ds) (vs := vs) (RE.pick1 key is) ds vs (hd _ _)
theorem Sx.capped {m : Bool} (rl : Rl K Rt H σ env A) (s : Sx K (capR m A Rt) σ2 H [] H1 env1 A1 B) : Sx K Rt σ H A H1 env A B := by
  have keep : ∀ b o, KN H b o → KN H1 b o := fun b o q => s.go.keep b o q fun z => by cases z
  have fresh : ∀ b ∈ B, H b = none := fun b hb => (s.go.new b (List.mem_append_right _ hb)).elim (fun z => by cases z) id
  have there : ∀ b ∈ A, H b ≠ none := fun b hb z => by
    obtain ⟨o, q, _⟩ := RE.there env σ A rl.re b hb
    rw [z] at q; cases q
  refine ⟨⟨fun b o q _ => keep b o q, s.go.tups, fun b hb => (List.mem_append.mp hb).imp id (fresh b), fun b q _ => s.go.there b q fun z => by cases z⟩, List.nodup_append.mpr ⟨rl.nd, (List.nodup_append.mp s.nd).2.1, fun a ha b hb e => there a ha (by rw [e]; exact fresh b hb)⟩,
    fun b hb z => ?_, fun b z => s.th b (capR_rt z), s.bth, RE.mono env σ A (fun b o q _ => keep b o q) s.go.tups (fun b z => ?_) rl.re, s.tb⟩
  · rcases List.mem_append.mp hb with y | y
    · exact rl.rt b y z
    · exact rl.th b z (fresh b y)
  · rcases z with z | z
    · exact (List.mem_append.mp z).elim (fun y => .inl (.inl y)) fun y => .inr (fresh b y)
    · exact .inl (.inr z)
theorem Sx.other {σ' : St} {env' : Env} (s : Sx K Rt σ H A H1 env1 A1 B) (re : RE K H1 (Av [] Rt) env' σ' []) : Sx K Rt σ' H A H1 env' [] [] :=
  ⟨s.go.sub (fun b hb => by cases hb), List.nodup_nil, fun b hb => (by cases hb), s.th, fun b hb => (by cases hb), re, s.tb⟩
theorem Sx.grown (rl : Rl K Rt H σ env A) (g : Grown (lamTs K) H H1) : Sx K Rt σ H A H1 env A [] := by
  have keep : ∀ b o, KN H b o → KN H1 b o := fun b o q => ⟨g.ext b o q.1 q.2, q.2⟩
  have tups : ∀ b xs, Rd H b (.tup xs) → Rd H1 b (.tup xs) := fun b xs h => h.imp (fun z => g.ext b _ z fun ps y => by cases y) fun ⟨o, z⟩ => ⟨o, g.ext b _ z fun ps y => by cases y⟩
  rw [show (A : List Addr) = A from rfl]
  exact ⟨⟨fun b o q _ => keep b o q, tups, fun b hb => .inl (by simpa using hb), fun b q _ => g.there b q⟩, by rw [List.append_nil]; exact rl.nd, by rw [List.append_nil]; exact rl.rt, fun b z => g.there b (rl.th b z), fun b hb => (by cases hb),
    by rw [List.append_nil]; exact RE.mono env σ A (fun b o q _ => keep b o q) tups (fun b z => .inl z) rl.re, g.tabs⟩
end
def lhA (j : Nat) : LH → Hs
  | .one rp => .one rp
  | .row pre rp post => .asg j pre rp (post.map .is)
def lhB : LH → Hs
  | .one rp => .one rp
  | .row pre rp post => .ret pre rp (post.map .is)
theorem evPo_is {G : Nat → Option T} {C : Calls} {env : Env} : ∀ bs : List Bool, evPo G C (bs.map .is) env = .ok (bs.map fun b => .val (.bl b)) env
  | [] => rfl
  | b :: bs => by
    show (evPo G C (bs.map .is) env).bind (fun ws env1 => R.ok (W.val (.bl b) :: ws) env1) = _
    rw [evPo_is bs]
    rfl
theorem evH_A {G : Nat → Option T} {C : Calls} {j : Nat} {h : LH} {t : T} {w : W} {env : Env} (e : lhW h t = some w) : evH G C (lhA j h) t env = .ok (.rt w) env ∨ evH G C (lhA j h) t env = .ok .nx (env.set j (some w)) := by
  cases h with
  | one rp =>
    refine .inl ?_
    show (R.of (xvT rp t) env).bind (fun w env1 => R.ok (F.rt w) env1) = _
    rw [show xvT rp t = some w from e]
    rfl
  | row pre rp post =>
    refine .inr ?_
    have e : (xvT rp t).map (fun w => W.lst (pre.map .val ++ w :: post.map fun b => .val (.bl b))) = some w := e
    obtain ⟨x, ex, ew⟩ := Option.map_eq_some_iff.mp e
    show (R.of (xvT rp t) env).bind (fun w env1 => (evPo G C (post.map .is) env1).bind fun ws env2 => R.ok F.nx (env2.set j (some (.lst (pre.map .val ++ w :: ws))))) = _
    rw [ex]
    show (evPo G C (post.map .is) env).bind (fun ws env2 => R.ok F.nx (env2.set j (some (.lst (pre.map .val ++ x :: ws))))) = _
    rw [evPo_is, ← ew]
    rfl
theorem find_map {α β : Type} {f : List Nat × α → List Nat × β} (h1 : ∀ p, (f p).1 = p.1) (c : Nat) : ∀ hs : List (List Nat × α), (hs.map f).find? (fun p => p.1.contains c) = (hs.find? fun p => p.1.contains c).map f
  | [] => rfl
  | p :: hs => by
    rw [List.map_cons, List.find?_cons, List.find?_cons, h1 p]
    cases p.1.contains c with
    | true => rfl
    | false => exact find_map h1 c hs
section
variable {X : Cx} {g : Cfg} {d : Nat} {tx : Tx}
theorem Ct.ncx (cx : Ct X g d tx) {N : List Str} {F : NdefX.NF} {f : Addr} {A : Around} {outer : List PySem.Env} {s : Shared} {H : Hp} {E : XK} (nd : N.Nodup) (hr : Room (4 * d + 2) (A.deeper (NdefX.envF F f s.heap.objs.size))) :
    Ct (NdefX.ncx (L2.CX X.prog X.w) X.prog X.w X.K X.mg X.base N F f A outer s H E) { g with W := fun cls dd _ H => E cls dd H } d tx :=
  ⟨rfl, nd, hr.units, takes_of rfl rfl rfl rfl, hr, cx.fn, cx.gl, cx.bl, cx.fc, cx.gc, cx.mks, cx.ms, cx.xq, cx.xs, cx.kw, cx.cw⟩
theorem Ct.cat (cx : Ct X g d tx) (hr : Room (4 * d + 4) X.A) {N : List Str} {q : Str} {sg : Scope} {f : Addr} {cd : Value} {s : Shared} {H : Hp} (nd : N.Nodup) :
    Ct (cxOf C8.CX0 X.prog X.w X.K X.mg X.base N q sg f cd X.A X.stack s H C8.E0).nox g.mute d tx :=
  have r1 : Room (4 * d + 3) (X.A.deeper (PyProof.Rows.envOfC q sg s.heap.objs.size f cd)) := Room.deeper hr _
  ⟨rfl, nd, r1.units, takes0, r1.mono (by omega), cx.fn, cx.gl, cx.bl, cx.fc, cx.gc, cx.mks, cx.ms, cx.xq, cx.xs, cx.kw, cx.cw⟩
end
end Ev
namespace Ev
open PySem L2
variable [WW]
section
variable {K : PySem.W.Frag} {R : Addr → Prop} {H H1 : Hp} {Q : VK} {g : Cfg} {ie : E} {capenv : Env} {hs : List (List Nat × LH)} {τ : St}
def Fin1 (K : PySem.W.Frag) (R : Addr → Prop) (H1 : Hp) (Q : VK) (w : W) : Prop := ∀ v H3 σ3 env3 A3 B3, Sx K R σ3 H1 [] H3 env3 A3 B3 → Own K H3 (Av (A3 ++ B3) R) w v B3 → Q v H3
def Outc (K : PySem.W.Frag) (R : Addr → Prop) (H1 : Hp) (Q : VK) (hs : List (List Nat × LH)) : Ev.R W → Prop
  | .ok _ _ => Fin1 K R H1 Q (.val .non)
  | .exc c t _ => ∃ p w, hs.find? (fun p => p.1.contains c) = some p ∧ lhW p.2 t = some w ∧ Fin1 K R H1 Q w
  | .no => False
section
variable {Y : Cx} {gY : Cfg} {d : Nat} {tx : Tx} {a hn n q : Str} {c' f : Addr} {h₀ : ExceptHandler} {hds : List ExceptHandler} {q1 q2 q3 q4 q5 q6 q7 q8 q9 : Pos} {k : Nat}
theorem cat_A (cy : Ct Y gY d tx) (hst : Y.stack = Y.env :: Y.outer) (hfr : Y.env.frame = some Y.env.locals) (hN : Y.N = [a, hn, n]) (hfn : Y.fn hn = true) (hln : Loc Y.env.scope hn) (hkn : Y.env.kindOf n = some .local) (vn : visB Y.env.scope n = true) (okh : okName hn = true) (okn : okName n = true)
    (pa : ∀ (W : WX) (pn : List (Addr × Obj)) (ye : Value → Shared → Prop) (p1 p2 : Pos), Takes (Y.tr pn ye) W →
      PE (Y.tr pn ye) (.Call (.Name a p1) [] [] p2) (fun σ H Q => σ[0]? = some (some (.ref f)) ∧ H c' = some (LamX.CodeO c' q) ∧ tE Y.K { g with W := fun cls dd _ H => WE W σ cls dd H } ie τ H Q))
    (hc : H1 c' = some (LamX.CodeO c' q)) (rl : Rl Y.K R H1 τ capenv []) (xq : g.xr = gY.xr) (hh : HsT Y gY d tx [] 2 n (h₀ :: hds) (hs.map fun p => (p.1, lhA 1 p.2))) (o : Outc Y.K R H1 Q hs (evE g.G g.C ie capenv)) :
    ∃ t, PSs Y [.Assign [.Name hn q1] (.Constant .none k q2) q3, .Try [.Expr (.Call (.Name a q4) [] [] q5) q6] (h₀ :: hds) [] [] q7, .Return (some (.Name hn q8)) q9] t ∧ t { nx := fun _ H' => Q .non H', rt := Q } (L2.start [a, hn, n] [.ref f]) H1 := by
  have i1 : Y.N[1]? = some hn := by rw [hN] <;> rfl
  have i2 : Y.N[2]? = some n := by rw [hN] <;> rfl
  have vh : Vis Y.env.scope hn := hln.imp id .inl
  obtain ⟨l, hl, go⟩ := hs_all (ks := []) cy i2 rfl vn okn hh
  refine ⟨_, pss_cons (ps_set cy.nd i1 hln pe_non (by rfl) (.inl hfn)) (pss_cons (ps_tryA hst hfr cy.nd i2 hkn cy.tk (fun W pn ye tk _ => pss_one (ps_expr (pa W pn ye q4 q5 tk) (by rfl))) hl)
    (pss_one (sns_retv (X := Y) (g := gY) (ks := []) i1 vh (okName_of okh).1 (okName_of okh).2.1))), ?_⟩
  have re : ∀ H, RE Y.K H (Av [] R) [none, some (.val .non), none] [some (V.ref f), some .non, none] [] := fun H => ⟨_, _, rfl, _, _, [], [], rfl, rfl, ⟨rfl, rfl⟩, _, _, rfl, rfl, rfl⟩
  refine ⟨rfl, hc, R, capenv, [], rl, ?_⟩
  cases er : evE g.G g.C ie capenv with
  | no => rw [er] at o; exact o.elim
  | ok w e1 =>
    rw [er] at o
    intro v H2 A2 B2 s2 _
    have s3 := s2.other (re H2)
    refine ⟨R, _, [], s3.rl0, ?_⟩
    intro v3 σ3 H3 A3 B3 _ s4 o4
    exact o v3 H3 σ3 _ A3 B3 (s3.next0 s4) o4
  | exc c t e1 =>
    rw [er] at o
    obtain ⟨p, w, fp, ew, o⟩ := o
    intro cls dd H2 A2 s2 px
    have s3 := s2.other (re H2)
    have px2 : gY.xr c t H2 (Av ([] ++ []) R) cls dd := by
      rw [← xq]
      exact g.xm c t H2 _ _ cls dd (fun b z => z.elim (fun z => by cases z) .inr) px
    refine go (by rw [hN] <;> rfl) Kp.refl s3.rl0.sx px2 ?_
    have ec : caughtM gY 2 (hs.map fun p => (p.1, lhA 1 p.2)) c t [none, some (.val .non), none] = (match evH gY.G gY.C (lhA 1 p.2) t [none, some (.val .non), none] with
        | .ok .nx env2 => .ok .nx (env2.set 2 none)
        | .ok (.rt w) env2 => .ok (.rt w) env2
        | _ => .no) := by
      unfold caughtM
      rw [find_map (f := fun p => (p.1, lhA 1 p.2)) (fun _ => rfl), fp]
      rfl
    rw [ec]
    rcases evH_A (G := gY.G) (C := gY.C) (j := 1) (env := [none, some (.val .non), none]) ew with e | e
    · rw [e]
      exact fun v3 σ3 H3 A3 B3 _ s4 o4 => o v3 H3 σ3 _ A3 B3 (s3.next0 s4) o4
    · rw [e]
      intro σ3 H3 A3 _ s4
      refine ⟨R, _, A3, s4.rl0, ?_⟩
      intro v5 σ5 H5 A5 B5 _ s5 o5
      exact o v5 H5 σ5 _ A5 B5 (s3.next0 (s4.next0 s5)) o5
end
end
end Ev
namespace Ev
open PySem L2
variable [WW]
section
variable {X : Cx} {g : Cfg} {d : Nat} {tx : Tx}
abbrev catX (X : Cx) (N : List Str) (x : Str) (sg : Scope) (fg : Addr) (cdv : Value) (s : Shared) (H : Hp) : Cx := (cxOf C8.CX0 X.prog X.w X.K X.mg X.base N x sg fg cdv X.A X.stack s H C8.E0).nox
def CatOk (X : Cx) (g : Cfg) (d : Nat) (tx : Tx) (x : Str) (fg : Addr) (a : Str) (N : List Str) (sg : Scope) (bg : List Stmt) (hs : List (List Nat × LH)) : Prop :=
  ∀ (s1 : Shared) (H1 : Hp) (cdv : Value) (f c' : Addr) (q : Str) (τ : St) (ie : E) (capenv : Env) (R : Addr → Prop) (Q : VK), Ct (catX X N x sg fg cdv s1 H1) g.mute d tx →
    (∀ (W : WX) (pn : List (Addr × Obj)) (ye : Value → Shared → Prop) (p1 p2 : Pos), Takes ((catX X N x sg fg cdv s1 H1).tr pn ye) W →
      PE ((catX X N x sg fg cdv s1 H1).tr pn ye) (.Call (.Name a p1) [] [] p2) (fun σ H Q => σ[0]? = some (some (.ref f)) ∧ H c' = some (LamX.CodeO c' q) ∧ tE X.K { g with W := fun cls dd _ H => WE W σ cls dd H } ie τ H Q)) →
    H1 c' = some (LamX.CodeO c' q) → Rl X.K R H1 τ capenv [] → Outc X.K R H1 Q hs (evE g.G g.C ie capenv) →
    ∃ t, PSs (catX X N x sg fg cdv s1 H1) bg t ∧ t { nx := fun _ H' => Q .non H', rt := Q } (L2.start N [.ref f]) H1
section
variable {x a hn n : Str} {fg : Addr} {sg : Scope} {hs : List (List Nat × LH)} {h₀ : ExceptHandler} {hds : List ExceptHandler} {q1 q2 q3 q4 q5 q6 q7 q8 q9 : Pos} {k : Nat}
theorem catA (hh : ∀ (cdv : Value) (s1 : Shared) (H1 : Hp), Ct (catX X [a, hn, n] x sg fg cdv s1 H1) g.mute d tx → HsT (catX X [a, hn, n] x sg fg cdv s1 H1) g.mute d tx [] 2 n (h₀ :: hds) (hs.map fun p => (p.1, lhA 1 p.2)))
    (h1 : sg.names.lookup hn = some .local := by rfl) (h2 : sg.names.lookup n = some .local := by rfl) (h3 : okName hn = true := by rfl) (h4 : okName n = true := by rfl) :
    CatOk X g d tx x fg a [a, hn, n] sg [.Assign [.Name hn q1] (.Constant .none k q2) q3, .Try [.Expr (.Call (.Name a q4) [] [] q5) q6] (h₀ :: hds) [] [] q7, .Return (some (.Name hn q8)) q9] hs := by
  intro s1 H1 cdv f c' q τ ie capenv R Q cy pa hc rl o
  refine cat_A cy rfl rfl rfl rfl (.inl h1) h2 ?_ h3 h4 pa hc rl rfl (hh cdv s1 H1 cy) o
  show visB sg n = true
  unfold visB
  rw [h2]
end
structure LamM (X : Cx) : Prop where
  ex : ∃ c P, LamX.TabB X.base X.mg c P ∧ X.env.code = .ref c ∧ (P, X.env.qual ++ "<lambda>") ∈ lamTs X.K ∧ ∀ p ∈ lamTs X.K, p.1 = P → p.2 = X.env.qual ++ "<lambda>"
inductive DfL (params : Arguments) : List T → List V → Prop
  | none (h : params.defaults = []) (h2 : params.kw_defaults = []) : DfL params [] []
  | one (i : Int) (k : Nat) (p : Pos) (h : params.defaults = [.Constant (.int i) k p]) (h2 : params.kw_defaults = []) : DfL params [.int i] [.int i]
theorem DfL.fz {params : Arguments} {ds : List T} {vs : List V} {K : PySem.W.Frag} (h : DfL params ds vs) : ∀ H av, FzL K H av ds vs := fun H av => by
  cases h with
  | none => exact rfl
  | one i => exact ⟨_, _, rfl, rfl, rfl⟩
theorem lam_eval {pins : List (Addr × Obj)} {σ : St} {H : Hp} {s : Shared} {params : Arguments} {body : Expr} {scope : Scope} {pos : Pos} {ds : List T} {vs : List V} {E : Value → Shared → Prop} {Q : Value → Shared → Prop} (I : Inv X pins σ H s) (M : LamM X) (hT : LamX.Tabs (lamTs X.K) H)
    (hfree : ∀ y ∈ scope.names, y.2 = .free → ∃ c, X.env.cells.lookup y.1 = some c) (df : DfL params ds vs)
    (h : ∀ (f c' : Addr) (us : List Value) (dV doc pm ct : Value) (H1 : Hp) (s' : Shared), Inv X pins σ H1 s' → Grown (lamTs X.K) H H1 → Vals vs us → DefAt s'.heap H1 (frs X.stack) us dV → H1 c' = some (LamX.CodeO c' (X.env.qual ++ "<lambda>")) →
      s'.heap.get? f = some (PySem.W.kdv_obj "<lambda>" (X.env.qual ++ "<lambda>") params (.expr body) scope (cloFrom X.env.cells scope.names []) dV doc pm c' ct) → H1 f = Option.none → f ∉ frs X.stack → Q (.ref f) s') :
    wpAny (model X.prog X.w) X.A (eval (.Lambda params body scope pos) X.env) Q E s := by
  obtain ⟨c, P, TB, hcode, hm, hu⟩ := M.ex
  cases df with
  | none hd hk =>
    refine PySem.W.kla_eval (by rw [defaultsOf_eq, hd, hk]; rfl) ?_
    rw [makeFunction_eq]
    simp only [List.zip_nil_right, List.filterMap_nil, List.isEmpty_nil, if_true, pure_bind]
    exact lam_laid I TB hcode hm hu hT hfree fun f c' doc pm ct H1 s' I1 G kp hc ho hf hff => h f c' [] .none doc pm ct H1 s' I1 G .nil rfl hc ho hf hff
  | one i k p hd hk =>
    refine PySem.W.kdv_lam (by rw [hd]; rfl) hk ?_
    rw [hd]
    refine PySem.W.kdv_all1 (thn ((pe_int (X := X) (i := i) (j := k) (pos := p)).run pins s σ H (fun v H1 => v = .int i ∧ H1 = H) I ⟨rfl, rfl⟩) fun u s1 ⟨v, H2, I1, r1, ev, eH⟩ => PySem.W.kdv_all0 ?_)
    subst ev
    rw [eH] at I1
    rw [makeFunction_eq]
    simp only [List.zip_nil_right, List.filterMap_nil, List.isEmpty_nil, List.isEmpty_cons, Bool.false_eq_true, if_false, if_true, pure_bind]
    refine wpAny_bind (wpAny_newTextTuple ?_)
    have sz : s1.heap.objs.size ≤ s1.heap.objs.size := Nat.le_refl _
    have I2 : L2.Inv X pins σ H { s1 with heap := s1.heap.push (PySem.W.kdv_tup [u]) } := I1.kept (t' := s1.toks) fun b o e => Heap.get?_push_of_some _ e
    have nt : H s1.heap.objs.size = Option.none := I1.hok.fresh sz
    have nf : s1.heap.objs.size ∉ frs X.stack := fun z => (List.mem_cons.mp (I1.stkSub _ z)).elim (fun e => absurd (e ▸ I1.lt) (Nat.lt_irrefl _)) (I1.nofs sz)
    refine lam_laid I2 TB hcode hm hu hT hfree fun f c' doc pm ct H1 s' I3 G kp hc ho hf hff => ?_
    obtain ⟨k1, k2⟩ := kp s1.heap.objs.size (PySem.W.kdv_tup [u]) (Heap.get?_push_size _ rfl) nt
    exact h f c' [u] (.ref s1.heap.objs.size) doc pm ct H1 s' I3 G (.cons r1 .nil) ⟨_, rfl, k1, k2, nf⟩ hc ho hf hff
theorem e_lamA {x a : Str} {fg : Addr} {fd : FuncData} {pg : Arguments} {bg : List Stmt} {sg : Scope} {kws : List (Str × V)} {Ng : List Str} {hs : List (List Nat × LH)} {params : Arguments} {lb : Expr} {ls : Scope} {ps fr : List Str} {ds : List T} {vs : List V} {is : List Nat} {ie : E} {lpos p pos : Pos}
    (cx : Ct X g d tx) (hr : Room (4 * d + 4) X.A) (M : LamM X) (m : Bool) (Fg : FunD X.K x x pg bg sg [] kws fg fd) (Sg : FnScope Ng [a] sg) (bd : Binds X.K fd [a] []) (hm : X.mg x = some (.ref fg)) (cat : CatOk X g d tx x fg a Ng sg bg hs) (hN0 : Ng[0]? = some a) (hva : Vis sg a) (oka : okName a = true)
    (S : NdefX.NScope (ps ++ fr) ps fr ls) (df : DfL params ds vs) (hvl : vs.length = ps.length) (hb : NdefX.ndefB X.env.scope ls fr = true) (hjs : is.map (fun j => X.N[j]?) = fr.map some) (bnd : ∀ (q : Str) (us : List Value), us.length = ps.length → BndL "<lambda>" q params lb ls ps us)
    (hbody : ∀ (q : Str) (cl : List (Str × Addr)) (c' f : Addr) (A : Around) (outer : List PySem.Env) (s : Shared) (H : Hp) (E : XK), Ct (NdefX.ncx (L2.CX X.prog X.w) X.prog X.w X.K X.mg X.base (ps ++ fr) ⟨"<lambda>", q, params, [], ls, cl, c'⟩ f A outer s H E) { g with W := fun cls dd _ H => E cls dd H } d tx →
      PE (NdefX.ncx (L2.CX X.prog X.w) X.prog X.w X.K X.mg X.base (ps ++ fr) ⟨"<lambda>", q, params, [], ls, cl, c'⟩ f A outer s H E) lb (tE X.K { g with W := fun cls dd _ H => E cls dd H } ie))
    (hg : glB X.env x = true := by rfl) (okx : okName x = true := by rfl) : PE X (.Call (.Name x p) [.Lambda params lb ls lpos] [] pos) (tE X.K g (.lamA m hs ds is ie)) := by
  obtain ⟨oc, od, dV, kV, doc, pm, an, cdv, ct, osl, rfl, lk, hcd, _, _⟩ := Fg.ex
  refine ⟨fun pins s σ H Q I ⟨Rt, env, A, rl, po⟩ => ?_⟩
  refine wpAny_Call_Name_kw (ld_glob I (gl_of hg) hm ?_ (okName_of okx).1)
  refine PySem.W.callWith_K (h₀ := X.base) I.ok.mod.kin Fg.kp ?_ rfl rfl
  show wpAny _ _ (spliced ((false, eval (.Lambda params lb ls lpos) X.env) :: backTo pos (starEach [] X.env))) _ _ s
  have hfree : ∀ y ∈ ls.names, y.2 = .free → ∃ c, X.env.cells.lookup y.1 = some c := fun y hy e => (NdefX.ndef_free hb y hy e).elim (fun z => I.ok.has _ (.inl z)) fun z => I.ok.has _ (.inr z)
  refine Calls.spliced_cons (lam_eval I M rl.tb hfree df fun f c' us dV2 doc2 pm2 ct2 H1 s1 I1 G rv dA hc ho hf hff => Calls.spliced_nil ⟨I1.kIn, ?_⟩)
  have s0 : Sx X.K Rt σ H A H1 env A [] := Sx.grown rl G
  have rl1 := s0.rl0
  have hul : us.length = ps.length := by rw [← rv.length]; exact hvl
  have cells := NdefX.cells_of I1 (NdefX.Caps.made I1.ok (NdefX.ndef_free hb) (NdefX.ndef_fr hb) hjs)
  have nl : (ps ++ fr).length = vs.length + is.length := by
    have q := congrArg List.length hjs
    rw [List.length_map, List.length_map] at q
    rw [List.length_append, hvl, q]
  have capd : Rl X.K (capR m A Rt) H1 (NdefX.startF (ps ++ fr) vs (is.map (NdefX.slotAt σ))) (capE m ds is env) [] := rl1.cap df.fz nl
  have fin : ∀ w : W, (m = true → w.pure = true) → Post X.K g (PO1 X.K) Rt σ H A (.ok w env) Q → Fin1 X.K (capR m A Rt) H1 Q w := fun w hp po v H3 σ3 env3 A3 B3 sx ow => by
    refine po v H3 A B3 (s0.next0 (Sx.capped rl1 sx)) ?_
    cases m with
    | true => exact Own.pure w v B3 (hp rfl) ow
    | false => exact Own.mono w v B3 (fun _ _ q _ => q) (fun _ _ q => q) (fun b z => .inl (z.elim (fun z => (List.mem_append.mp z).elim (fun z => .inr (.inl z)) fun z => .inl (List.mem_append_right _ z)) fun z => .inr (.inr z))) ow
  have out : Outc X.K (capR m A Rt) H1 Q hs (evE g.G g.C ie (capE m ds is env)) := by
    have po' : Post X.K g (PO1 X.K) Rt σ H A (match evE g.G g.C ie (capE m ds is env) with
      | .ok _ _ => .ok (.val .non) env
      | .exc c t _ => (match (hs.find? fun p => p.1.contains c).bind fun p => lhW p.2 t with
        | some w => if !m || w.pure then .ok w env else .no
        | none => .no)
      | .no => .no) Q := po
    cases er : evE g.G g.C ie (capE m ds is env) with
    | no => rw [er] at po'; exact po'.elim
    | ok w e1 => rw [er] at po'; exact fin _ (fun _ => rfl) po'
    | exc c t e1 =>
      rw [er] at po'
      have po' : Post X.K g (PO1 X.K) Rt σ H A (match (hs.find? fun p => p.1.contains c).bind fun p => lhW p.2 t with
        | some w => if !m || w.pure then .ok w env else .no
        | none => .no) Q := po'
      cases ef : (hs.find? fun p => p.1.contains c).bind fun p => lhW p.2 t with
      | none => rw [ef] at po'; exact po'.elim
      | some w =>
        rw [ef] at po'
        have po' : Post X.K g (PO1 X.K) Rt σ H A (if !m || w.pure then .ok w env else .no) Q := po'
        by_cases hp : (!m || w.pure) = true
        · rw [if_pos hp] at po'
          obtain ⟨p, fp, ew⟩ := Option.bind_eq_some_iff.mp ef
          exact ⟨p, w, fp, ew, fin w (fun e => by subst e; simpa using hp) po'⟩
        · rw [if_neg hp] at po'; exact po'.elim
  have rc : codeAny (model X.prog X.w) X.A (.call (.ref fg) ⟨[.ref f], []⟩) (L2.CR C8.CX0 X.stack X.prog X.w H1 s1 Q C8.E0) s1 := by
    refine LamX.run_ofS (N := Ng) (ps := [a]) (us := [.ref f]) (vs := [.ref f]) lk hcd Sg hr.toRoom I1.env0 (bd s1 [.ref f] I1.kIn rfl) (.cons rfl .nil) rfl fun _ => ?_
    have hr3 : Room (4 * d + 3) (X.A.deeper (PyProof.Rows.envOfC x sg s1.heap.objs.size fg cdv)) := Room.deeper hr _
    have cy : Ct (catX X Ng x sg fg cdv s1 H1) g.mute d tx := cx.cat hr Sg.nd
    refine (cat s1 H1 cdv f c' (X.env.qual ++ "<lambda>") _ ie _ _ Q cy (fun W pn ye p1 p2 tk => ?_) hc capd out).imp fun t h => ⟨h.1.nox, h.2⟩
    exact pe_lam (Y := (catX X Ng x sg fg cdv s1 H1).tr pn ye) (F := ⟨"<lambda>", X.env.qual ++ "<lambda>", params, [], ls, cloFrom X.env.cells ls.names [], c'⟩) (k := 4 * d + 2) (i := 0) (t := fun E => tE X.K { g with W := fun cls dd _ H => E cls dd H } ie) S hr3 rfl ho hf hff (bnd _ us hul) dA cells rv hvl tk
        (fun s2 H2 E2 hr2 => hbody _ _ _ _ _ _ s2 H2 E2 (cx.ncx S.nd hr2)) hN0 hva (okName_of oka).1 (okName_of oka).2.1
  refine wpAny_call (codeAny_mono rc fun r s2 hq => ?_)
  cases r with
  | error e => exact (show False from hq).elim
  | ok fl =>
    cases fl with
    | ret u => exact I1.after hq
    | next => exact False.elim hq
    | brk => exact False.elim hq
    | cont => exact False.elim hq
end
end Ev
namespace Ev
open PySem L2
variable [WW]
abbrev tab0 : Obj := { cls := .none, data := .fields #[] }
def startH (K : PySem.W.Frag) (cs : List (Addr × Addr)) (a : Addr) (lo : Obj) (xs : List V) : Hp := fun b =>
  if b ∈ cs.map (·.2) then some (.tbl #[]) else if b = a ∧ K.lookup a = none then some (.frz lo (.lst xs)) else none
section
open PyProof.Rows (AllBare IntsAre)
variable {P : Program} {w : World} {K : PySem.W.Frag} {mg mb : Str → Option Value} {cs : List (Addr × Addr)} {a : Addr} {st : Shared} {us : List Value} {ns : List Int}
structure TabsAt (K : PySem.W.Frag) (cs : List (Addr × Addr)) (h : Heap) : Prop where
  hd : ∀ p ∈ cs, PySem.W.CodeHd h p.1 p.2
  em : ∀ p ∈ cs, h.get? p.2 = some tab0
  out : ∀ p ∈ cs, K.lookup p.2 = none
abbrev lstO (us : List Value) : Obj := { cls := .type "list", data := .seq us.toArray }
theorem startH_cases (T : TabsAt K cs st.heap) (ha : st.heap.get? a = some (lstO us)) {xs : List V} (b : Addr) :
    ((∃ p ∈ cs, b = p.2) ∧ startH K cs a (lstO us) xs b = some (.tbl #[]) ∧ st.heap.get? b = some tab0 ∧ K.lookup b = none) ∨
    (b = a ∧ startH K cs a (lstO us) xs b = some (.frz (lstO us) (.lst xs)) ∧ K.lookup b = none) ∨ startH K cs a (lstO us) xs b = none := by
  by_cases h1 : b ∈ cs.map (·.2)
  · obtain ⟨p, hp, e⟩ := List.mem_map.mp h1
    subst e
    exact .inl ⟨⟨p, hp, rfl⟩, if_pos h1, T.em p hp, T.out p hp⟩
  · by_cases h2 : b = a ∧ K.lookup a = none
    · exact .inr (.inl ⟨h2.1, (if_neg h1).trans (if_pos h2), by rw [h2.1]; exact h2.2⟩)
    · exact .inr (.inr ((if_neg h1).trans (if_neg h2)))
theorem startH_tab {xs : List V} {lo : Obj} {p : Addr × Addr} (hp : p ∈ cs) : startH K cs a lo xs p.2 = some (.tbl #[]) := if_pos (List.mem_map.mpr ⟨p, hp, rfl⟩)
theorem head_call {CX : CXT} {k : Nat} {fa : Addr} {fd : FuncData} {x : Str} {sp : Sp} (KX : K.In st.heap) (hns : st.heap.Ns mainGlobals mg) (hb : st.heap.Ns builtinsNs mb) (hbb : ∀ x : Str, x ≠ "__name__" → mb x = bootBuiltins x) (hlim : st.heap.NoLimit) (hg : st.gens = #[])
    (hbm : ∃ bm ob, mg "__builtins__" = some (.ref bm) ∧ bm ≠ builtinsNs ∧ st.heap.get? bm = some ob ∧ ob.cls = .type "module" ∧ ob.dict = some builtinsNs ∧ ob.data = .plain) (T : TabsAt K cs st.heap)
    (ha : st.heap.get? a = some (lstO us)) (hi : IntsAre us ns) (hl : ns.length ≤ sizeLine) (hr : Room k callerA) (F : ∀ base : Heap, K.In base → base.Ns mainGlobals mg → (∀ p ∈ cs, LamX.TabB base mg p.1 p.2) → FnOk P w K mg base CX k fa fd [x] sp)
    (hbind : ∀ (s : Shared) (u : Value), BindsTo s fd ⟨[u], []⟩ [(x, u)]) (hsp : ∀ H : Hp, (∀ p ∈ cs, H p.2 = some (.tbl #[])) → SqL K H a (ns.map V.int) → sp [.ref a] H (fun v _ => v = .bl true) fun _ _ _ => False) (hCX : ∀ H e s', CX [] H st (fun _ _ _ => False) e s' → False) :
    codeAny (model P w) callerA (.call (.ref fa) ⟨[.ref a], []⟩) (fun r s' => r = .ok (.ret (.bool true)) ∧ OldK st.heap s'.heap ∧ s'.os = st.os ∧ AllBare s'.gens) st := by
  have rv := vals_ints hi
  have kinds := fun b => startH_cases (xs := ns.map V.int) T ha b
  generalize hH : startH K cs a (lstO us) (ns.map V.int) = H at kinds
  have seen : ∀ {b o}, st.heap.get? b = some o → (∀ z, o.data ≠ .fields z) → (∀ z n, o.data ≠ .seq z n) → (hidT st.heap H).get? b = some o := fun {b o} e n1 n2 => hidT_get e (by
    rcases kinds b with ⟨_, _, q, _⟩ | ⟨q, _⟩ | q
    · rw [e] at q; cases q; exact absurd rfl (n1 _)
    · rw [q, ha] at e; cases e; exact absurd rfl (n2 _ _)
    · exact q)
  have spaces : ∀ {b m}, st.heap.Ns b m → (hidT st.heap H).Ns b m := fun {b m} ⟨o, es, ep, e, hd, r⟩ => ⟨o, es, ep, seen e (fun z y => by rw [hd] at y; cases y) (fun z n y => by rw [hd] at y; cases y), hd, r⟩
  have kin : K.In (hidT st.heap H) := fun b o e => hidT_get (KX b o e) (by
    rcases kinds b with ⟨_, _, _, q⟩ | ⟨_, _, q⟩ | q
    · rw [q] at e; cases e
    · rw [q] at e; cases e
    · exact q)
  have hok : HOk P w H st.heap := fun b u e => by
    rcases kinds b with ⟨_, q, q2, _⟩ | ⟨q, q2, _⟩ | q
    · rw [e] at q; cases q; exact q2
    · rw [e] at q2; cases q2
      subst q
      exact ⟨ha, by rw [List.length_map]; exact hl, us, _, rv, ha⟩
    · rw [e] at q; cases q
  obtain ⟨mc, l1, l2⟩ := hlim
  have e0 : Env0 P w K mg (hidT st.heap H) callerA [] st H := ⟨rfl, ⟨kin, spaces hns, ⟨mb, spaces hb, hbb⟩, mc, spaces l1, l2⟩, fun b o e => of_hidT e, Nat.le_of_eq (hidT_size _ _), trivial, fun b z => (by cases z), hok, .of_eq hg⟩
  have atab : ∀ p ∈ cs, LamX.TabB (hidT st.heap H) mg p.1 p.2 := fun p hp => by
    have tp := T.em p hp
    obtain ⟨o, vs, file, tf, fl, tg, inF, tx, tt, e1, e2, e3, e4, e5⟩ := T.hd p hp
    refine ⟨⟨o, vs, file, tf, fl, tg, inF, tx, tt, hidT_get e1 ?_, e2, e3, e4, e5⟩, ?_, fun z => ?_⟩
    · rcases kinds p.1 with ⟨_, _, q, _⟩ | ⟨q, _⟩ | q
      · rw [e1] at q; cases q; cases e2
      · rw [q, ha] at e1; cases e1; cases e3
      · exact q
    · obtain ⟨bm, ob, b1, b2, b3, b4, b5, b6⟩ := hbm
      refine ⟨bm, ob, b1, b2, fun z => ?_, fun z => ?_, seen b3 (fun y q => by rw [b6] at q; cases q) (fun y n q => by rw [b6] at q; cases q), b4, b5, b6⟩
      · obtain ⟨o, es, ep, e, hd, _⟩ := hns
        rw [z, e] at b3; cases b3; rw [hd] at b6; cases b6
      · rw [z, tp] at b3; cases b3; cases b6
    · obtain ⟨o, es, ep, e, hd, _⟩ := hns
      rw [z, tp] at e; cases e; cases hd
  have sq : SqL K H a (ns.map V.int) := by
    cases hk : K.lookup a with
    | none =>
      rcases kinds a with ⟨_, _, q, _⟩ | ⟨_, q, _⟩ | q
      · rw [ha] at q; cases q
      · exact .inl (.inr ⟨_, q⟩)
      · rw [← hH] at q
        have nt : a ∉ cs.map (·.2) := fun z => by
          have : startH K cs a (lstO us) (ns.map V.int) a = some (.tbl #[]) := if_pos z
          rw [this] at q; cases q
        have : startH K cs a (lstO us) (ns.map V.int) a = some (.frz (lstO us) (.lst (ns.map V.int))) := (if_neg nt).trans (if_pos ⟨rfl, hk⟩)
        rw [this] at q; cases q
    | some o =>
      have e := KX a o hk
      rw [ha] at e; cases e
      exact .inr ⟨_, us.toArray, _, hk, rfl, rfl, rfl, by rw [List.size_toArray, hi.length]; exact hl, by simpa using rv⟩
  refine codeAny_mono ((F _ kin (spaces hns) atab).run callerA [] st H ⟨[.ref a], []⟩ [.ref a] [.ref a] _ _ hr e0 (hbind st (.ref a)) (.cons rfl .nil) (hsp H (fun p hp => by rw [← hH]; exact startH_tab hp) sq)) fun r s' h => ?_
  match r, h with
  | .error e, h => exact (hCX H e s' h).elim
  | .ok (.ret u), h =>
    obtain ⟨v, H', os, bare, un, hok', r', q⟩ := h
    have q : v = .bl true := q
    subst q
    have r' : u = Value.bool true := r'
    subst r'
    have old : ∀ b o, st.heap.get? b = some o → (∃ p ∈ cs, b = p.2 ∧ ∃ more, s'.heap.get? b = some { cls := .none, data := .fields more }) ∨ s'.heap.get? b = some o := fun b o e => by
      rcases kinds b with ⟨⟨p, hp, eb⟩, q, _, _⟩ | ⟨_, q, _⟩ | q
      · obtain ⟨more, z⟩ := un.tbls b #[] q
        exact .inl ⟨p, hp, eb, _, hok' b _ z⟩
      · have z := (hok' b _ (un.frzs b _ _ q)).1
        have y := (hok b _ q).1
        rw [e] at y; cases y
        exact .inr z
      · exact .inr (un.keep b o e q (fun y => by cases y) (fun y => by cases y))
    refine ⟨rfl, ⟨fun b o e => ?_, fun b o e => (old b o e).elim (fun ⟨_, _, _, m, z⟩ => ⟨_, z⟩) fun z => ⟨_, z⟩⟩, os, bare⟩
    rcases old b o e with ⟨p, hp, eb, more, z⟩ | z
    · subst eb
      rw [T.em p hp] at e; cases e
      exact .inr (.inl ⟨((T.hd p hp).tab (T.em p hp)).isCodeTable, rfl, #[], more, rfl, by rw [Array.empty_append]; exact z⟩)
    · exact .inl z
end
theorem walk_ofT {l : PySem.W.OpenLaw} {n k : Nat} {q : Program} {loose : List Str} {XP : (Str → Option Value) → Heap → Prop} {YP : World → Heap → Prop} {d : DefRec} {CX : CXT} {x : Str} (hn : l.most = some n) (hn2 : n ≤ sizeLine) (hdf : d.params.defaults = []) (hr : Room k callerA)
    (F : ∀ (w : World) (mg : Str → Option Value) (fa : Addr) (h : Heap), YP w h → h.Ns mainGlobals mg → mg d.name = some (.ref fa) →
      ∃ (K : PySem.W.Frag) (fd : FuncData) (sp : Sp) (cs : List (Addr × Addr)), K.In h ∧ TabsAt K cs h ∧ (∀ (s : Shared) (u : Value), BindsTo s fd ⟨[u], []⟩ [(x, u)]) ∧
        (∀ (H : Hp) (a : Addr) (ns : List Int), ns.length ≤ n → (∀ p ∈ cs, H p.2 = some (.tbl #[])) → SqL K H a (ns.map V.int) → sp [.ref a] H (fun v _ => v = .bl true) fun _ _ _ => False) ∧
        ∀ base : Heap, K.In base → base.Ns mainGlobals mg → (∀ p ∈ cs, LamX.TabB base mg p.1 p.2) → FnOk l.prog w K mg base CX k fa fd [x] sp)
    (hCX : ∀ (H : Hp) (s : Shared) (e : Value) (s' : Shared), CX [] H s (fun _ _ _ => False) e s' → False) : PySem.W.WalkO q loose XP YP l.row.toRowW d [] (fun f vs => PySem.call f vs) :=
  Att.attach_call hn hdf fun w _ st mg mb fa _ _ _ _ a us ns G Y _ _ _ hmg hobj hints hlen hg => by
    obtain ⟨K, fd, sp, cs, KX, T, hb, hsp, hF⟩ := F w mg fa _ Y G.T.g hmg
    exact head_call KX G.T.g G.T.b G.T.builtins G.T.nolimit hg G.T.bmain T hobj hints (Nat.le_trans hlen hn2) hr hF hb (fun H hH hS => hsp H a ns hlen hH hS) fun H e s' => hCX H st e s'
theorem isTab0_ok {o : Option Obj} (h : isTab0 o = true) : o = some tab0 := by
  unfold isTab0 at h
  split at h
  · obtain ⟨h1, h2⟩ := ba h
    rename_i vs sl
    have e1 : vs = #[] := Array.eq_empty_of_size_eq_zero (Nat.eq_of_beq_eq_true h1)
    have e2 : sl = #[] := Array.eq_empty_of_size_eq_zero (Nat.eq_of_beq_eq_true h2)
    subst e1 e2
    rfl
  · cases h
theorem lamB_ok {h : Heap} {K : PySem.W.Frag} {x : Str} (KX : K.In h) (e : lamB h.get? K x = true) : ∃ c P, lamC K x = some c ∧ lamP K x = some P ∧ PySem.W.CodeHd h c P ∧ h.get? P = some tab0 ∧ K.lookup P = none := by
  unfold lamB at e
  cases hc : lamC K x with
  | none => rw [hc] at e; cases e
  | some c =>
    rw [hc] at e
    dsimp only at e
    split at e
    · rename_i ty dd vs sl hk
      obtain ⟨e1, ee⟩ := ba e
      have ec := of_decide_eq_true e1
      clear e e1
      subst ec
      split at ee
      · rename_i P P' y1 t1 i1 t2 b1 i2 t3 h11 g11 g18 g7 g9 g10
        obtain ⟨f1, ee⟩ := ba ee
        obtain ⟨f2, ee⟩ := ba ee
        obtain ⟨f3, f4⟩ := ba ee
        have eP := Nat.eq_of_beq_eq_true f1
        subst eP
        have ne : c ≠ P := fun z => by
          subst z
          rw [Nat.beq_refl] at f2
          cases f2
        refine ⟨c, P, rfl, ?_, ⟨_, vs, y1, t1, i1, t2, b1, i2, t3, KX c _ hk, rfl, rfl, h11, g11, g18, g7, g9, g10, ne⟩, isTab0_ok f3, by simpa using f4⟩
        unfold lamP
        rw [hc]
        show (match K.lookup c with
          | some ⟨_, _, .fields vs, _⟩ => tabP vs
          | _ => none) = _
        rw [hk]
        show tabP vs = _
        unfold tabP
        rw [h11]
      · cases ee
    · cases e
structure MkO (K : PySem.W.Frag) (base : Heap) (mg : Str → Option Value) (x : Str) : Prop where
  ex : ∃ c P, lamC K x = some c ∧ LamX.TabB base mg c P ∧ (P, x ++ ".<locals>." ++ "<lambda>") ∈ lamTs K ∧ ∀ p ∈ lamTs K, p.1 = P → p.2 = x ++ ".<locals>." ++ "<lambda>"
theorem lamC_of {K : PySem.W.Frag} {x : Str} {c : Addr} {oc : Value} {od : Option Addr} {fd : FuncData} {osl : Array (Option Value)} (lk : K.lookup (He.ga K x) = some ⟨oc, od, .func fd, osl⟩) (h : lamC K x = some c) : fd.code = .ref c := by
  unfold lamC at h
  rw [lk] at h
  dsimp only at h
  split at h
  · rename_i c' hc
    cases h
    exact hc
  · cases h
theorem LamM.of {K : PySem.W.Frag} {base : Heap} {mg : Str → Option Value} {x : Str} {pg : Arguments} {bg : List Stmt} {sg : Scope} {kws : List (Str × V)} {fd : FuncData} (F : FunD K x x pg bg sg [] kws (He.ga K x) fd) (M : MkO K base mg x) {cdv : Value} (hc : fd.code = cdv)
    {CX : CXT} {P : Program} {w : World} {N : List Str} {A : Around} {outer : List PySem.Env} {s : Shared} {H : Hp} {E : XK} : LamM (cxOf CX P w K mg base N x sg (He.ga K x) cdv A outer s H E) := by
  obtain ⟨c, T, h1, h2, h3, h4⟩ := M.ex
  obtain ⟨oc, od, dV, kV, doc, pm, an, cdv', ct, osl, e, lk, _⟩ := F.ex
  subst e
  exact ⟨c, T, h2, hc.symm.trans (lamC_of lk h1), h3, h4⟩
theorem lamsB_ts {h : Heap} {K : PySem.W.Frag} (KX : K.In h) (e : lamsB h.get? K WW.lam = true) : ∃ cs : List (Addr × Addr), TabsAt K cs h ∧ (∀ p ∈ lamTs K, ∃ q ∈ cs, q.2 = p.1) ∧
    ∀ (base : Heap) (mg : Str → Option Value), (∀ p ∈ cs, LamX.TabB base mg p.1 p.2) → ∀ x ∈ WW.lam, MkO K base mg x := by
  obtain ⟨e1, e2⟩ := ba e
  have e1 := List.all_eq_true.mp e1
  have e2 := of_decide_eq_true e2
  have ok := fun x hx => lamB_ok KX (e1 x hx)
  refine ⟨WW.lam.filterMap fun x => (lamC K x).bind fun c => (lamP K x).map fun P => (c, P), ⟨fun p hp => ?_, fun p hp => ?_, fun p hp => ?_⟩, fun p hp => ?_, fun base mg TB x hx => ?_⟩
  · obtain ⟨x, hx, ex⟩ := List.mem_filterMap.mp hp
    obtain ⟨c, P, h1, h2, h3, _⟩ := ok x hx
    rw [h1, h2] at ex; cases ex
    exact h3
  · obtain ⟨x, hx, ex⟩ := List.mem_filterMap.mp hp
    obtain ⟨c, P, h1, h2, _, h4, _⟩ := ok x hx
    rw [h1, h2] at ex; cases ex
    exact h4
  · obtain ⟨x, hx, ex⟩ := List.mem_filterMap.mp hp
    obtain ⟨c, P, h1, h2, _, _, h5⟩ := ok x hx
    rw [h1, h2] at ex; cases ex
    exact h5
  · obtain ⟨x, hx, ex⟩ := List.mem_filterMap.mp hp
    obtain ⟨c, P, h1, h2, _⟩ := ok x hx
    rw [h2] at ex; cases ex
    exact ⟨(c, P), List.mem_filterMap.mpr ⟨x, hx, by rw [h1, h2]; rfl⟩, rfl⟩
  · obtain ⟨c, P, h1, h2, _⟩ := ok x hx
    refine ⟨c, P, h1, TB (c, P) (List.mem_filterMap.mpr ⟨x, hx, by rw [h1, h2]; rfl⟩), List.mem_filterMap.mpr ⟨x, hx, by rw [h2]; rfl⟩, fun p hp ep => ?_⟩
    obtain ⟨y, hy, ey⟩ := List.mem_filterMap.mp hp
    obtain ⟨c2, P2, _, k2, _⟩ := ok y hy
    rw [k2] at ey; cases ey
    have ep : P2 = P := ep
    have same : lamP K y = lamP K x := by rw [h2, k2, ep]
    have : y = x := by
      obtain ⟨i, hi, ei⟩ := List.getElem_of_mem hx
      obtain ⟨j, hj, ej⟩ := List.getElem_of_mem hy
      have hj' : j < (WW.lam.map (lamP K)).length := by rw [List.length_map]; exact hj
      have : j = i := (List.getElem?_inj hj' e2).mp (by
        rw [List.getElem?_map, List.getElem?_map, List.getElem?_eq_getElem hi, ei, List.getElem?_eq_getElem (show j < WW.lam.length from hj), show WW.lam[j] = y from ej]
        exact congrArg some same)
      subst this
      exact ej.symm.trans ei
    rw [this]
theorem TBs.empty {K : PySem.W.Frag} {cs : List (Addr × Addr)} {H : Hp} (h1 : ∀ p ∈ lamTs K, ∃ q ∈ cs, q.2 = p.1) (h2 : ∀ p ∈ cs, H p.2 = some (.tbl #[])) : TBs K H := fun p hp => by
  obtain ⟨q, hq, e⟩ := h1 p hp
  exact LamX.TabS.nil (by rw [← e]; exact h2 q hq)
def obsZG (n : Nat) (fa : List Fb) (fn : List He5.DefA) (xd : List XD) (ls : List Str) (g : Addr → Option Obj) : AlX × Bool := (obsX fa fn xd (He.frG g (asB g n)), lamsB g (He.frG g (asB g n)) ls)
def hookZ (n : Nat) (fa : List Fb) (fn : List He5.DefA) (xd : List XD) (ls : List Str) : PySem.W.Hook where
  α := AlX × Bool
  obs := fun s => obsZG n fa fn xd ls s.heap.get?
  val := fun w => (valX fa fn xd w, true)
  says := fun w h => ∃ K : PySem.W.Frag, K.In h ∧ SaysX fa fn xd w K ∧ ∃ g : Heap, (∀ b o, g.get? b = some o → h.get? b = some o) ∧ K.In g ∧ lamsB g.get? K ls = true
  of := fun w s e => ⟨_, He.frG_in, congrArg Prod.fst e, s.heap, fun _ _ z => z, He.frG_in, congrArg Prod.snd e⟩
  keeps := fun _ _ _ ⟨K, hK, c, g, k1, k2, e⟩ k => ⟨K, PySem.W.Frag.In.keeps hK k, c, g, fun b o z => k b o (k1 b o z), k2, e⟩
theorem obsZG_eq {n : Nat} {fa : List Fb} {fn : List He5.DefA} {xd : List XD} {ls : List Str} {g : Addr → Option Obj} {s : Shared} (h : ∀ a, g a = s.heap.get? a) : obsZG n fa fn xd ls g = (hookZ n fa fn xd ls).obs s := by
  have e : g = s.heap.get? := funext h
  rw [e] <;> rfl
theorem TabsAt.keeps {K : PySem.W.Frag} {cs : List (Addr × Addr)} {g h : Heap} (t : TabsAt K cs g) (k : ∀ b o, g.get? b = some o → h.get? b = some o) : TabsAt K cs h := ⟨fun p hp => (t.hd p hp).keeps k, fun p hp => k _ _ (t.em p hp), t.out⟩
end Ev
namespace Ev
open PySem L2 HandSHeadRun PySem.W
variable [WW]
section
variable {P : Program} {w : World} {K : PySem.W.Frag} {mg : Str → Option Value} {base : Heap} {x qual : Str} {params : Arguments} {body : List Stmt} {scope : Scope} {kws : List (Str × V)} {f : Addr} {fd : FuncData} {xr : XR} {xm : ∀ c t H (av av' : Addr → Prop) cls d, (∀ b, av' b → av b) → xr c t H av cls d → xr c t H av' cls d} {G : Nat → Option T} {tab : Nat → Option FD} {d : Nat}
abbrev BdL (P : Program) (w : World) (K : PySem.W.Frag) (mg : Str → Option Value) (base : Heap) (xr : XR) (xm : ∀ c t H (av av' : Addr → Prop) cls d, (∀ b, av' b → av b) → xr c t H av cls d → xr c t H av' cls d) (G : Nat → Option T) (tab : Nat → Option FD) (d : Nat) (N : List Str) (qual : Str) (scope : Scope) (f : Addr) (fd : FuncData) (body : List Stmt) (fd0 : FD) : Prop :=
  ∀ (cdv : Value) (A : Around) (outer : List PySem.Env) (s : Shared) (H : Hp) (E : XK), fd.code = cdv → Room (4 * d + 4) (A.deeper (PyProof.Rows.envOfC qual scope s.heap.objs.size f cdv)) →
    PSs (cxOf (L2.CX P w) P w K mg base N qual scope f cdv A outer s H E) body (tSs K (gOf G (callN G tab d) xr xm E) fd0.io fd0.body)
theorem mkAL {N ps : List Str} {i n : Nat} {io : List Nat} {fd0 : FD} (F : FunD K x qual params body scope [] kws f fd) (S : FnScope N ps scope)
    (ht : tab i = some fd0) (hnp : Nat.beq fd0.np ps.length = true) (hns : Nat.beq fd0.ns N.length = true) (hn : Nat.beq n ps.length = true) (ei : fd0.io = io) (hnd : fd0.io.Nodup) (hio : allLt fd0.io fd0.np = true)
    (bd : ∀ (kV doc pm : Value) (an : Option Addr) (cdv ct : Value) (us : List Value), us.length = ps.length → bindArgs (PySem.W.fnOf x qual params body scope .none kV doc pm an cdv ct) ⟨us, []⟩ = pure (ps.zip us))
    (hb : BdL P w K mg base xr xm G tab d N qual scope f fd body fd0) : FnA P w K mg base xr (callN G tab (d + 1)) (4 * (d + 1) + 1) i f io n := by
  subst ei
  rw [Nat.eq_of_beq_eq_true hn]
  exact ⟨fd, ps, fn_succC (k := 4 * d + 4) F S ht (Nat.eq_of_beq_eq_true hnp) (Nat.eq_of_beq_eq_true hns) hnd (allLt_of hio) hb, F.kp, F.bindsN bd⟩
end
theorem runB_z {r : OpenRow} {fa : List Fb} {fn : List He5.DefA} {xd : List XD} {ls : List Str} {ob : SharedT → AlX} {M : Nat} {w : World} (b : RunB r (hookY 5 fa fn xd) ob M w) (z : RunZ r ls M w) :
    RunB r (hookZ 5 fa fn xd ls) (fun s => (ob s, lamsB (getT s) (He.frG (getT s) (asB (getT s) 5)) ls)) M w := fun os => by
  have e1 := b os
  have e2 := z os
  cases e : endF (stepQ (denQ tabQ) r.prog w) M r.prog w os with
  | none => rw [e] at e2; cases e2
  | some s =>
    rw [e] at e1 e2
    have e1 : ob s = valX fa fn xd w := Option.some.inj e1
    have e2 : lamsB (getT s) (He.frG (getT s) (asB (getT s) 5)) ls = true := Option.some.inj e2
    show some (ob s, lamsB (getT s) (He.frG (getT s) (asB (getT s) 5)) ls) = some (valX fa fn xd w, true)
    rw [e1, e2]
end Ev
namespace Ev
open PySem L2
variable [WW]
section
variable {X : Cx} {g : Cfg} {d : Nat} {tx : Tx} {ks : List Nat} {x n y : Str} {i : Nat} {pos p p' : Pos} {cs : List Nat} {a : Addr} {oe : Obj} {cls : Value} {dd : Option Addr} {pn : List (Addr × Obj)} {es : List Expr} {pre : List T} {rp : Bool} {post : List Po}
theorem h_asg (u : Cu X g d tx i n x cs a oe cls dd pn) (j : Nat) (hr : PA (X.suite a ((a, oe) :: pn)) es (tHA X.K g i a cls dd pre rp post)) (hj : X.N[j]? = some y := by rfl) (hy : X.env.scope.names.lookup y = some .local := by rfl) (hk : ks.contains j = false := by rfl)
    (hsw : swapsWith (.List es p) (some (.Name y p')) pos.line X.env = pure false := by rfl) (hl : decide (pre.length + post.length < 16777216) = true := by rfl) : PSs (X.suite a ((a, oe) :: pn)) [.Assign [.Name y p'] (.List es p) pos] (tHs X.K g ks i (.asg j pre rp post) a cls dd) :=
  hs_asg u.cx.nd hj (.inl hy) hk (.inr hy) hsw hr hl
end
end Ev
namespace Zk71
open PySem L2 Ev
abbrev Cl (d : Nat) : Calls := callN (cstG tx.cs) tab d
end Zk71
namespace Zk71.H
open PySem L2 Ev
local instance (priority := high) lamI : WW := { w := WW.any.w, lam := lams }
abbrev N0 : List Str := ["thing"]
abbrev N1 : List Str := ["thing", "least", "most"]
abbrev N2 : List Str := ["thing"]
abbrev N20 : List Str := ["_law_script", "_law_k", "_law_cell", "_law_seed"]
abbrev N21 : List Str := ["_law_pool_here", "_law_many", "_law_found"]
abbrev N29 : List Str := ["_law_script", "_law_k", "_law_pool_here", "_law_blocks", "_law_prices", "_law_due", "_law_many", "_law_each", "_law_sign", "_law_size", "_law_at"]
abbrev N30 : List Str := ["_law_odd", "_law_due", "_law_some"]
abbrev N31 : List Str := ["blocks", "many", "copy", "mark", "prices", "least", "size", "one"]
abbrev N32 : List Str := ["_law_blocks", "_law_size", "_law_many", "_law_each", "_law_sign", "_law_regions"]
abbrev N33 : List Str := ["_law_call", "_law_held", "e"]
abbrev N34 : List Str := ["blocks", "size", "many"]
abbrev N35 : List Str := ["blocks", "size", "written", "block"]
abbrev N36 : List Str := ["blocks", "size", "many", "copy", "mark"]
abbrev N37 : List Str := ["blocks", "size", "many", "heads", "rest", "block"]
abbrev N38 : List Str := ["blocks", "size", "many", "short", "front", "last", "back"]
abbrev N39 : List Str := ["blocks", "size", "many"]
abbrev N40 : List Str := ["blocks", "size", "many"]
abbrev N41 : List Str := ["blocks", "size", "many"]
abbrev N42 : List Str := ["blocks", "size", "written", "region"]
abbrev N43 : List Str := ["thing", "least", "most"]
abbrev N44 : List Str := ["blocks", "size", "many"]
abbrev N45 : List Str := ["blocks", "written", "block"]
abbrev N46 : List Str := ["number", "size"]
abbrev N47 : List Str := ["blocks", "size", "region"]
theorem supS : SupS (defScope stx) := ⟨rfl, rfl, rfl, by decide +kernel, supFree (by decide +kernel), rfl, rfl, rfl, rfl⟩
abbrev hk : PySem.W.Hook := hookZ 5 tx.fa fn xd lams
def obY (s : PySem.W.SharedT) : AlX := obsYG 5 tx.fa fn xd (HandSHeadRun.getT s)
def ob (s : PySem.W.SharedT) : AlX × Bool := (obY s, lamsB (HandSHeadRun.getT s) (He.frG (HandSHeadRun.getT s) (asB (HandSHeadRun.getT s) 5)) lams)
theorem ob_eq (s : PySem.W.SharedT) : ob s = hk.obs s.abs := obsZG_eq (HandSHeadRun.getT_eq s)
theorem runB0 (w : World) : RunB R hk ob 14000 (w.withFollow "special-get-raises" false) := runB_z (runB_of (ob := obY) 21 12 (fun _ => rfl) (runBa0 w) (runBb0 w) (runBc0 w) (runBd0 w) (runBx0 w)) (runBz0 w)
theorem runB1 (w : World) : RunB R hk ob 14000 (w.withFollow "special-get-raises" true) := runB_z (runB_of (ob := obY) 21 12 (fun _ => rfl) (runBa1 w) (runBb1 w) (runBc1 w) (runBd1 w) (runBx1 w)) (runBz1 w)
theorem run (w : World) : HandSHeadRun.RunEq R (PySem.W.view R.prog [31]) hk ob 14000 names w := PySem.W.byRow2 "special-get-raises" (P := fun w => HandSHeadRun.RunEq R (PySem.W.view R.prog [31]) hk ob 14000 names w) (fun w => run_two (runA0 w) (runB0 w)) (fun w => run_two (runA1 w) (runB1 w)) w
section
variable {P : Program} {w : World} {K : PySem.W.Frag} {mg : Str → Option Value} {base : Heap} {f : Addr} {fd : FuncData} {d : Nat}
abbrev IH (P : Program) (w : World) (K : PySem.W.Frag) (mg : Str → Option Value) (base : Heap) (d : Nat) : Prop := Ih P w K mg base (xrM K tx.xs) (Cl d) tx d
abbrev Fx (w : World) (K : PySem.W.Frag) : Prop := SaysX tx.fa fn xd w K
abbrev LMs (K : PySem.W.Frag) (base : Heap) (mg : Str → Option Value) : Prop := ∀ x ∈ lams, MkO K base mg x
theorem ff0 (F : Fx w K) : ∃ fd, FunD K "is_integer" "is_integer" (defArgs st0) (defBody st0) (defScope st0) [] [] (Ad.at_ K (.glo "is_integer")) fd := F.def_ 0 (d := dd0) rfl
theorem ff1 (F : Fx w K) : ∃ fd, FunD K "is_between" "is_between" (defArgs st1) (defBody st1) (defScope st1) [] [] (Ad.at_ K (.glo "is_between")) fd := F.def_ 1 (d := dd1) rfl
theorem ff2 (F : Fx w K) : ∃ fd, FunD K "is_row" "is_row" (defArgs st2) (defBody st2) (defScope st2) [] [] (Ad.at_ K (.glo "is_row")) fd := F.def_ 2 (d := dd2) rfl
theorem ff20 (F : Fx w K) : ∃ fd, FunD K "_law_pool" "_law_pool" (defArgs st20) (defBody st20) (defScope st20) [] [] (Ad.at_ K (.glo "_law_pool")) fd := F.def_ 3 (d := dd20) rfl
theorem ff21 (F : Fx w K) : ∃ fd, FunD K "_law_take" "_law_take" (defArgs st21) (defBody st21) (defScope st21) [] [] (Ad.at_ K (.glo "_law_take")) fd := F.def_ 4 (d := dd21) rfl
theorem ff29 (F : Fx w K) : ∃ fd, FunD K "law" "law" (defArgs st29) (defBody st29) (defScope st29) [] [] (Ad.at_ K (.glo "law")) fd := F.def_ 5 (d := dd29) rfl
theorem ff30 (F : Fx w K) : ∃ fd, FunD K "_law_refused" "_law_refused" (defArgs st30) (defBody st30) (defScope st30) [] [] (Ad.at_ K (.glo "_law_refused")) fd := F.def_ 6 (d := dd30) rfl
theorem ff31 (F : Fx w K) : ∃ fd, FunD K "best_sizes" "best_sizes" (defArgs st31) (defBody st31) (defScope st31) [] [("copy", .int 1), ("mark", .int 1)] (Ad.at_ K (.glo "best_sizes")) fd := F.def_ 7 (d := dd31) rfl
theorem ff32 (F : Fx w K) : ∃ fd, FunD K "_law_price" "_law_price" (defArgs st32) (defBody st32) (defScope st32) [] [] (Ad.at_ K (.glo "_law_price")) fd := F.def_ 8 (d := dd32) rfl
theorem ff33 (F : Fx w K) : ∃ fd, FunD K "_law_caught" "_law_caught" (defArgs st33) (defBody st33) (defScope st33) [] [] (Ad.at_ K (.glo "_law_caught")) fd := F.def_ 9 (d := dd33) rfl
theorem ff34 (F : Fx w K) : ∃ fd, FunD K "most_copied" "most_copied" (defArgs st34) (defBody st34) (defScope st34) [] [] (Ad.at_ K (.glo "most_copied")) fd := F.def_ 10 (d := dd34) rfl
theorem ff35 (F : Fx w K) : ∃ fd, FunD K "touched" "touched" (defArgs st35) (defBody st35) (defScope st35) [] [] (Ad.at_ K (.glo "touched")) fd := F.def_ 11 (d := dd35) rfl
theorem ff36 (F : Fx w K) : ∃ fd, FunD K "price" "price" (defArgs st36) (defBody st36) (defScope st36) [] [("copy", .int 1), ("mark", .int 1)] (Ad.at_ K (.glo "price")) fd := F.def_ 12 (d := dd36) rfl
theorem ff37 (F : Fx w K) : ∃ fd, FunD K "spread" "spread" (defArgs st37) (defBody st37) (defScope st37) [] [] (Ad.at_ K (.glo "spread")) fd := F.def_ 13 (d := dd37) rfl
theorem ff38 (F : Fx w K) : ∃ fd, FunD K "packed" "packed" (defArgs st38) (defBody st38) (defScope st38) [] [] (Ad.at_ K (.glo "packed")) fd := F.def_ 14 (d := dd38) rfl
theorem ff39 (F : Fx w K) : ∃ fd, FunD K "most_touched" "most_touched" (defArgs st39) (defBody st39) (defScope st39) [] [] (Ad.at_ K (.glo "most_touched")) fd := F.def_ 15 (d := dd39) rfl
theorem ff40 (F : Fx w K) : ∃ fd, FunD K "least_touched" "least_touched" (defArgs st40) (defBody st40) (defScope st40) [] [] (Ad.at_ K (.glo "least_touched")) fd := F.def_ 16 (d := dd40) rfl
theorem ff41 (F : Fx w K) : ∃ fd, FunD K "least_copied" "least_copied" (defArgs st41) (defBody st41) (defScope st41) [] [] (Ad.at_ K (.glo "least_copied")) fd := F.def_ 17 (d := dd41) rfl
theorem ff42 (F : Fx w K) : ∃ fd, FunD K "copied" "copied" (defArgs st42) (defBody st42) (defScope st42) [] [] (Ad.at_ K (.glo "copied")) fd := F.def_ 18 (d := dd42) rfl
theorem ff43 (F : Fx w K) : ∃ fd, FunD K "check_number" "check_number" (defArgs st43) (defBody st43) (defScope st43) [] [] (Ad.at_ K (.glo "check_number")) fd := F.def_ 19 (d := dd43) rfl
theorem ff44 (F : Fx w K) : ∃ fd, FunD K "check_store" "check_store" (defArgs st44) (defBody st44) (defScope st44) [] [] (Ad.at_ K (.glo "check_store")) fd := F.def_ 20 (d := dd44) rfl
theorem ff45 (F : Fx w K) : ∃ fd, FunD K "check_written" "check_written" (defArgs st45) (defBody st45) (defScope st45) [] [] (Ad.at_ K (.glo "check_written")) fd := F.def_ 21 (d := dd45) rfl
theorem ff46 (F : Fx w K) : ∃ fd, FunD K "raised" "raised" (defArgs st46) (defBody st46) (defScope st46) [] [] (Ad.at_ K (.glo "raised")) fd := F.def_ 22 (d := dd46) rfl
theorem ff47 (F : Fx w K) : ∃ fd, FunD K "length_of" "length_of" (defArgs st47) (defBody st47) (defScope st47) [] [] (Ad.at_ K (.glo "length_of")) fd := F.def_ 23 (d := dd47) rfl
theorem sc33 : FnScope N33 ["_law_call"] (defScope st33) := ⟨rfl, rfl, rfl, by decide +kernel, rfl, by decide +kernel, by decide +kernel⟩
theorem cat33 {X : Cx} {g : Cfg} {d : Nat} (cx : Ct X g d tx) : CatOk X g d tx "_law_caught" (Ad.at_ X.K (.glo "_law_caught")) "_law_call" N33 (defScope st33) (defBody st33) [([0], (.row [(.str "number")] false []))] :=
  catA (fun cdv s1 H1 cx => (hm_c cx 6 (fun _ _ _ _ _ u => (h_asg u 1 (h_s (h_v u (h_val u) (h_nil u))))) hm_nil))
theorem sc0 : FnScope N0 ["thing"] (defScope st0) := ⟨rfl, rfl, rfl, by decide +kernel, rfl, by decide +kernel, by decide +kernel⟩
theorem bd0 (M : Mg P K w mg tx) (ih : IH P w K mg base d) : Bd P w K mg base (xrM K tx.xs) (xmM K tx.xs) (cstG tx.cs) tab d N0 "is_integer" (defScope st0) f (defBody st0) Sh.fd0 := by
  intro cdv A outer s H E hr
  have cx := ct_of (cdv := cdv) (A := A) (outer := outer) (s := s) (H := H) (E := E) sc0 M ih hr
  exact (sns_cons (sns_ret (snd_and (e_isi cx .int (e_rd 0)) (snd_one (snd_not (e_isi cx .bool (e_rd 0))))))
      sns_nil)
theorem sc1 : FnScope N1 ["thing", "least", "most"] (defScope st1) := ⟨rfl, rfl, rfl, by decide +kernel, rfl, by decide +kernel, by decide +kernel⟩
theorem bd1 (M : Mg P K w mg tx) (ih : IH P w K mg base d) : Bd P w K mg base (xrM K tx.xs) (xmM K tx.xs) (cstG tx.cs) tab d N1 "is_between" (defScope st1) f (defBody st1) Sh.fd1 := by
  intro cdv A outer s H E hr
  have cx := ct_of (cdv := cdv) (A := A) (outer := outer) (s := s) (H := H) (E := E) sc1 M ih hr
  exact (sns_cons (sns_ret (snd_and (e_call cx 0 (a_cons (e_rd 0) a_nil)) (snd_one (e_chn cx (e_rd 1) (e_rd 0) (e_rd 2)))))
      sns_nil)
theorem sc2 : FnScope N2 ["thing"] (defScope st2) := ⟨rfl, rfl, rfl, by decide +kernel, rfl, by decide +kernel, by decide +kernel⟩
theorem bd2 (M : Mg P K w mg tx) (ih : IH P w K mg base d) : Bd P w K mg base (xrM K tx.xs) (xmM K tx.xs) (cstG tx.cs) tab d N2 "is_row" (defScope st2) f (defBody st2) Sh.fd2 := by
  intro cdv A outer s H E hr
  have cx := ct_of (cdv := cdv) (A := A) (outer := outer) (s := s) (H := H) (E := E) sc2 M ih hr
  exact (sns_cons (sns_ret (e_isid2 cx .list .tuple (e_rd 0)))
      sns_nil)
theorem sc20 : FnScope N20 ["_law_script", "_law_k"] (defScope st20) := ⟨rfl, rfl, rfl, by decide +kernel, rfl, by decide +kernel, by decide +kernel⟩
theorem bd20 (M : Mg P K w mg tx) (ih : IH P w K mg base d) : Bd P w K mg base (xrM K tx.xs) (xmM K tx.xs) (cstG tx.cs) tab d N20 "_law_pool" (defScope st20) f (defBody st20) fd20 := by
  intro cdv A outer s H E hr
  have cx := ct_of (cdv := cdv) (A := A) (outer := outer) (s := s) (H := H) (E := E) sc20 M ih hr
  exact (sns_cons (s_asg cx 2 (snd_ife (t_pe (e_cmp cx (e_rd 1) (e_len cx (e_cons (e_rd 0) e_nil)))) (e_ix cx (e_rd 0) (e_rd 1)) snd_int))
      (sns_cons (s_asg cx 3 (snd_op (e_toint cx (e_cons (snd_op (snd_op (snd_op (e_toint cx (e_cons (e_rd 2) e_nil)) snd_int) (snd_op (snd_op snd_int (e_rd 1)) (e_rd 1))) snd_int) e_nil)) snd_int))
      (sns_cons (sns_ret (snd_lst (e_cons (snd_ife (t_pe (e_cmp cx (e_rd 2) (snd_op snd_int snd_int))) (e_rd 2) snd_int) (e_cons (snd_op (snd_op (e_toint cx (e_cons (e_rd 3) e_nil)) snd_int) snd_int) e_nil))))
      sns_nil)))
theorem sc21 : FnScope N21 ["_law_pool_here", "_law_many"] (defScope st21) := ⟨rfl, rfl, rfl, by decide +kernel, rfl, by decide +kernel, by decide +kernel⟩
theorem bd21 (M : Mg P K w mg tx) (ih : IH P w K mg base d) : Bd P w K mg base (xrM K tx.xs) (xmM K tx.xs) (cstG tx.cs) tab d N21 "_law_take" (defScope st21) f (defBody st21) fd21 := by
  intro cdv A outer s H E hr
  have cx := ct_of (cdv := cdv) (A := A) (outer := outer) (s := s) (H := H) (E := E) sc21 M ih hr
  exact (sns_cons (sns_if (t_pe (e_cmp cx (e_rdx cx 0 snd_int) snd_int)) (sns_cons (s_asg cx 2 (snd_op (e_toint cx (e_cons (e_rdx cx 0 snd_int) e_nil)) (e_rd 1)))
      (sns_cons (s_setx cx 0 snd_int (snd_op (e_rdx cx 0 snd_int) (e_rd 1)))
      (sns_cons (s_retv 2)
      sns_nil))) sns_nil)
      (sns_cons (s_setx cx 0 snd_int (snd_op (e_toint cx (e_cons (snd_op (snd_op (e_rdx cx 0 snd_int) snd_int) snd_int) e_nil)) snd_int))
      (sns_cons (sns_ret (snd_op (snd_op (snd_op (e_toint cx (e_cons (snd_op (e_rdx cx 0 snd_int) (e_rdx cx 0 snd_int)) e_nil)) snd_int) snd_int) (e_rd 1)))
      sns_nil)))
theorem sc29 : FnScope N29 ["_law_script"] (defScope st29) := ⟨rfl, rfl, rfl, by decide +kernel, rfl, by decide +kernel, by decide +kernel⟩
theorem bd29 (M : Mg P K w mg tx) (ih : IH P w K mg base d) : Bd P w K mg base (xrM K tx.xs) (xmM K tx.xs) (cstG tx.cs) tab d N29 "law" (defScope st29) f (defBody st29) fd29 := by
  intro cdv A outer s H E hr
  have cx := ct_of (cdv := cdv) (A := A) (outer := outer) (s := s) (H := H) (E := E) sc29 M ih hr
  exact (sns_cons (s_for cx own_of (i_rng1 cx (e_max cx (e_cons snd_int (e_cons (e_min cx (e_cons (e_len cx (e_cons (e_rd 0) e_nil)) (e_cons snd_int e_nil))) e_nil)))) (g_var cx 1) (sns_cons (s_asg cx 2 (e_call cx 20 (a_cons (e_rd 0) (a_cons (e_rd 1) a_nil))))
      (sns_cons (s_asg cx 3 (snd_op snd_int (e_call cx 21 (a_iol 2 (a_cons (e_ix cx (snd_lst (e_cons snd_int (e_cons snd_int e_nil))) (e_call cx 21 (a_io 2 (a_cons snd_int a_nil)))) a_nil)))))
      (sns_cons (s_asgT (snd_tup (e_cons (snd_op snd_int (e_call cx 21 (a_io 2 (a_cons (e_rd 3) a_nil)))) (e_cons (e_call cx 21 (a_io 2 (a_cons snd_int a_nil))) (e_cons (e_call cx 21 (a_io 2 (a_cons snd_int a_nil))) e_nil)))) (g_tup cx (gs_cons cx 6 (gs_cons cx 7 (gs_cons cx 8 gs_nil)))))
      (sns_cons (s_asg cx 4 (e_lc cx [("_law_size", 9)] (i_rng2 cx snd_int (snd_op (e_rd 3) snd_int)) (fun _ _ _ _ _ => (g_var (cx.blk) 9)) (fun _ _ _ _ _ => ts_nil) (fun _ _ _ _ _ => (e_call (cx.blk) 32 (a_cons (e_rd 3) (a_cons (e_rd 9) (a_cons (e_rd 6) (a_cons (e_rd 7) (a_cons (e_rd 8) a_nil)))))))))
      (sns_cons (s_asgLc cx 5 [("_law_at", 10)] (i_rng1 cx (e_rd 3)) (fun _ _ _ _ _ => (g_var (cx.blk) 10)) (fun _ _ _ _ _ => (ts_one (t_pe (e_cmp (cx.blk) (e_ix (cx.blk) (e_rd 4) (e_rd 10)) (e_min (cx.blk) (e_cons (e_rd 4) e_nil)))))) (fun _ _ _ _ _ => (snd_op (e_rd 10) snd_int)))
      (sns_cons (sns_if (t_pe (e_cmp cx (e_callw (m := ⟨"best_sizes", 31, 2, ["copy", "mark"], [.p 0, .p 1, .k 0, .k 1], []⟩) cx 1 4 (e_cons (e_rd 3) (e_cons (e_rd 6) e_nil)) (k_cons (e_rd 7) (k_cons (e_rd 8) k_nil))) (e_rd 5))) (sns_cons (sns_ret snd_bl)
      sns_nil) sns_nil)
      (sns_cons (sns_if (t_pe (e_cmp cx (e_callw (m := ⟨"best_sizes", 31, 2, [], [.p 0, .p 1, .d 0 (.int 1), .d 1 (.int 1)], [(.int 1), (.int 1)]⟩) cx 0 4 (e_cons (e_rd 3) (e_cons (e_rd 6) e_nil)) k_nil) (e_callw (m := ⟨"best_sizes", 31, 2, ["copy", "mark"], [.p 0, .p 1, .k 0, .k 1], []⟩) cx 1 4 (e_cons (e_rd 3) (e_cons (e_rd 6) e_nil)) (k_cons snd_int (k_cons snd_int k_nil))))) (sns_cons (sns_ret snd_bl)
      sns_nil) sns_nil)
      sns_nil))))))))
      (sns_cons (sns_ret (e_call0 cx 30))
      sns_nil))
theorem sc30 : FnScope N30 [] (defScope st30) := ⟨rfl, rfl, rfl, by decide +kernel, rfl, by decide +kernel, by decide +kernel⟩
theorem bd30 (M : Mg P K w mg tx) (F : Fx w K) (LM : LMs K base mg) {fd : FuncData} (F1 : FunD K "_law_refused" "_law_refused" (defArgs st30) (defBody st30) (defScope st30) [] [] (Ad.at_ K (.glo "_law_refused")) fd) (ih : IH P w K mg base d) : BdL P w K mg base (xrM K tx.xs) (xmM K tx.xs) (cstG tx.cs) tab d N30 "_law_refused" (defScope st30) (Ad.at_ K (.glo "_law_refused")) fd (defBody st30) fd30 := by
  intro cdv A outer s H E hc hr
  have cx := ct_of (f := Ad.at_ K (.glo "_law_refused")) (cdv := cdv) (A := A) (outer := outer) (s := s) (H := H) (E := E) sc30 M ih hr
  have lm : LamM (cxOf (L2.CX P w) P w K mg base N30 "_law_refused" (defScope st30) (Ad.at_ K (.glo "_law_refused")) cdv A outer s H E) := LamM.of F1 (LM "_law_refused" (by decide)) hc
  obtain ⟨_, fk33⟩ := ff33 F
  exact (sns_cons (s_for cx own_of (sni_e (snd_lst (e_cons snd_non (e_cons snd_int (e_cons (snd_neg snd_int) (e_cons snd_bl (e_cons snd_str (e_cons snd_int e_nil)))))))) (g_var cx 0) (sns_cons (s_asg cx 1 (snd_lst (e_cons snd_str (e_cons (e_rd 0) e_nil))))
      (sns_cons (s_asg cx 2 (snd_lst (e_cons (e_lamA (X := cxOf _ _ _ _ _ _ _ _ _ _ _ _ _ _ _ _) (x := "_law_caught") (a := "_law_call") (ps := []) (fr := ["_law_odd"]) (vs := []) cx hr lm false fk33 sc33 (fk33.bindsN (ps := ["_law_call"]) fun _ _ _ _ _ _ us hl => match us, hl with | [_], _ => rfl) (cx.fc 5 (.glo "_law_caught") rfl) (cat33 cx) rfl (.inl rfl) rfl (NdefX.nscope_by (by decide +kernel)) (.none rfl rfl) rfl (by rfl) rfl (fun q us hl => match us, hl with | [], _ => ⟨rfl, fun _ _ _ _ _ => rfl⟩) (fun q cl c2 f2 A2 o2 s2 H2 E2 cx => (e_call cx 35 (a_cons (e_rd 0) (a_cons snd_non (a_cons snd_non a_nil)))))) (e_cons (e_lamA (X := cxOf _ _ _ _ _ _ _ _ _ _ _ _ _ _ _ _) (x := "_law_caught") (a := "_law_call") (ps := ["_law_a"]) (fr := ["_law_odd"]) (vs := [.int 0]) cx hr lm false fk33 sc33 (fk33.bindsN (ps := ["_law_call"]) fun _ _ _ _ _ _ us hl => match us, hl with | [_], _ => rfl) (cx.fc 5 (.glo "_law_caught") rfl) (cat33 cx) rfl (.inl rfl) rfl (NdefX.nscope_by (by decide +kernel)) (.one 0 _ _ rfl rfl) rfl (by rfl) rfl (fun q us hl => match us, hl with | [_], _ => fun _ _ _ _ _ _ => ⟨_, rfl, rfl⟩) (fun q cl c2 f2 A2 o2 s2 H2 E2 cx => (e_call cx 42 (a_cons (e_rd 1) (a_cons snd_non (a_cons snd_non a_nil)))))) e_nil))))
      (sns_cons (s_app 2 (e_lamA (X := cxOf _ _ _ _ _ _ _ _ _ _ _ _ _ _ _ _) (x := "_law_caught") (a := "_law_call") (ps := []) (fr := ["_law_odd"]) (vs := []) cx hr lm false fk33 sc33 (fk33.bindsN (ps := ["_law_call"]) fun _ _ _ _ _ _ us hl => match us, hl with | [_], _ => rfl) (cx.fc 5 (.glo "_law_caught") rfl) (cat33 cx) rfl (.inl rfl) rfl (NdefX.nscope_by (by decide +kernel)) (.none rfl rfl) rfl (by rfl) rfl (fun q us hl => match us, hl with | [], _ => ⟨rfl, fun _ _ _ _ _ => rfl⟩) (fun q cl c2 f2 A2 o2 s2 H2 E2 cx => (e_call cx 41 (a_cons snd_int (a_cons (e_rd 0) (a_cons snd_non a_nil)))))))
      (sns_cons (s_app 2 (e_lamA (X := cxOf _ _ _ _ _ _ _ _ _ _ _ _ _ _ _ _) (x := "_law_caught") (a := "_law_call") (ps := []) (fr := ["_law_odd"]) (vs := []) cx hr lm false fk33 sc33 (fk33.bindsN (ps := ["_law_call"]) fun _ _ _ _ _ _ us hl => match us, hl with | [_], _ => rfl) (cx.fc 5 (.glo "_law_caught") rfl) (cat33 cx) rfl (.inl rfl) rfl (NdefX.nscope_by (by decide +kernel)) (.none rfl rfl) rfl (by rfl) rfl (fun q us hl => match us, hl with | [], _ => ⟨rfl, fun _ _ _ _ _ => rfl⟩) (fun q cl c2 f2 A2 o2 s2 H2 E2 cx => (e_call cx 34 (a_cons snd_int (a_cons (e_rd 0) (a_cons snd_non a_nil)))))))
      (sns_cons (s_app 2 (e_lamA (X := cxOf _ _ _ _ _ _ _ _ _ _ _ _ _ _ _ _) (x := "_law_caught") (a := "_law_call") (ps := []) (fr := ["_law_odd"]) (vs := []) cx hr lm false fk33 sc33 (fk33.bindsN (ps := ["_law_call"]) fun _ _ _ _ _ _ us hl => match us, hl with | [_], _ => rfl) (cx.fc 5 (.glo "_law_caught") rfl) (cat33 cx) rfl (.inl rfl) rfl (NdefX.nscope_by (by decide +kernel)) (.none rfl rfl) rfl (by rfl) rfl (fun q us hl => match us, hl with | [], _ => ⟨rfl, fun _ _ _ _ _ => rfl⟩) (fun q cl c2 f2 A2 o2 s2 H2 E2 cx => (e_call cx 40 (a_cons (e_rd 0) (a_cons snd_non (a_cons snd_non a_nil)))))))
      (sns_cons (s_app 2 (e_lamA (X := cxOf _ _ _ _ _ _ _ _ _ _ _ _ _ _ _ _) (x := "_law_caught") (a := "_law_call") (ps := []) (fr := ["_law_odd"]) (vs := []) cx hr lm false fk33 sc33 (fk33.bindsN (ps := ["_law_call"]) fun _ _ _ _ _ _ us hl => match us, hl with | [_], _ => rfl) (cx.fc 5 (.glo "_law_caught") rfl) (cat33 cx) rfl (.inl rfl) rfl (NdefX.nscope_by (by decide +kernel)) (.none rfl rfl) rfl (by rfl) rfl (fun q us hl => match us, hl with | [], _ => ⟨rfl, fun _ _ _ _ _ => rfl⟩) (fun q cl c2 f2 A2 o2 s2 H2 E2 cx => (e_call cx 39 (a_cons snd_int (a_cons snd_int (a_cons (e_rd 0) a_nil)))))))
      (sns_cons (s_app 2 (e_lamA (X := cxOf _ _ _ _ _ _ _ _ _ _ _ _ _ _ _ _) (x := "_law_caught") (a := "_law_call") (ps := []) (fr := ["_law_odd"]) (vs := []) cx hr lm false fk33 sc33 (fk33.bindsN (ps := ["_law_call"]) fun _ _ _ _ _ _ us hl => match us, hl with | [_], _ => rfl) (cx.fc 5 (.glo "_law_caught") rfl) (cat33 cx) rfl (.inl rfl) rfl (NdefX.nscope_by (by decide +kernel)) (.none rfl rfl) rfl (by rfl) rfl (fun q us hl => match us, hl with | [], _ => ⟨rfl, fun _ _ _ _ _ => rfl⟩) (fun q cl c2 f2 A2 o2 s2 H2 E2 cx => (e_call cx 38 (a_cons snd_int (a_cons snd_int (a_cons (e_rd 0) a_nil)))))))
      (sns_cons (s_app 2 (e_lamA (X := cxOf _ _ _ _ _ _ _ _ _ _ _ _ _ _ _ _) (x := "_law_caught") (a := "_law_call") (ps := []) (fr := ["_law_odd"]) (vs := []) cx hr lm false fk33 sc33 (fk33.bindsN (ps := ["_law_call"]) fun _ _ _ _ _ _ us hl => match us, hl with | [_], _ => rfl) (cx.fc 5 (.glo "_law_caught") rfl) (cat33 cx) rfl (.inl rfl) rfl (NdefX.nscope_by (by decide +kernel)) (.none rfl rfl) rfl (by rfl) rfl (fun q us hl => match us, hl with | [], _ => ⟨rfl, fun _ _ _ _ _ => rfl⟩) (fun q cl c2 f2 A2 o2 s2 H2 E2 cx => (e_call cx 37 (a_cons snd_int (a_cons (e_rd 0) (a_cons snd_non a_nil)))))))
      (sns_cons (s_app 2 (e_lamA (X := cxOf _ _ _ _ _ _ _ _ _ _ _ _ _ _ _ _) (x := "_law_caught") (a := "_law_call") (ps := []) (fr := ["_law_odd"]) (vs := []) cx hr lm false fk33 sc33 (fk33.bindsN (ps := ["_law_call"]) fun _ _ _ _ _ _ us hl => match us, hl with | [_], _ => rfl) (cx.fc 5 (.glo "_law_caught") rfl) (cat33 cx) rfl (.inl rfl) rfl (NdefX.nscope_by (by decide +kernel)) (.none rfl rfl) rfl (by rfl) rfl (fun q us hl => match us, hl with | [], _ => ⟨rfl, fun _ _ _ _ _ => rfl⟩) (fun q cl c2 f2 A2 o2 s2 H2 E2 cx => (e_callw (m := ⟨"price", 36, 3, ["copy"], [.p 0, .p 1, .p 2, .k 0, .d 0 (.int 1)], [(.int 1)]⟩) cx 4 7 (e_cons snd_int (e_cons snd_int (e_cons (e_rd 0) e_nil))) (k_cons snd_non k_nil)))))
      (sns_cons (s_app 2 (e_lamA (X := cxOf _ _ _ _ _ _ _ _ _ _ _ _ _ _ _ _) (x := "_law_caught") (a := "_law_call") (ps := []) (fr := ["_law_odd"]) (vs := []) cx hr lm false fk33 sc33 (fk33.bindsN (ps := ["_law_call"]) fun _ _ _ _ _ _ us hl => match us, hl with | [_], _ => rfl) (cx.fc 5 (.glo "_law_caught") rfl) (cat33 cx) rfl (.inl rfl) rfl (NdefX.nscope_by (by decide +kernel)) (.none rfl rfl) rfl (by rfl) rfl (fun q us hl => match us, hl with | [], _ => ⟨rfl, fun _ _ _ _ _ => rfl⟩) (fun q cl c2 f2 A2 o2 s2 H2 E2 cx => (e_callw (m := ⟨"best_sizes", 31, 2, [], [.p 0, .p 1, .d 0 (.int 1), .d 1 (.int 1)], [(.int 1), (.int 1)]⟩) cx 0 4 (e_cons (e_rd 0) (e_cons snd_non e_nil)) k_nil))))
      (sns_cons (sns_if (t_pe (e_cmpv cx 2 (snd_op (snd_lst (e_cons (e_rd 1) e_nil)) snd_int))) (sns_cons (sns_ret snd_bl)
      sns_nil) sns_nil)
      sns_nil))))))))))))
      (sns_cons (s_for cx own_of (sni_e (snd_lst (e_cons snd_non (e_cons (snd_neg snd_int) (e_cons snd_bl (e_cons snd_str (e_cons snd_int e_nil))))))) (g_var cx 0) (sns_cons (sns_if (t_pe (e_cmp cx (e_lamA (X := cxOf _ _ _ _ _ _ _ _ _ _ _ _ _ _ _ _) (x := "_law_caught") (a := "_law_call") (ps := []) (fr := ["_law_odd"]) (vs := []) cx hr lm false fk33 sc33 (fk33.bindsN (ps := ["_law_call"]) fun _ _ _ _ _ _ us hl => match us, hl with | [_], _ => rfl) (cx.fc 5 (.glo "_law_caught") rfl) (cat33 cx) rfl (.inl rfl) rfl (NdefX.nscope_by (by decide +kernel)) (.none rfl rfl) rfl (by rfl) rfl (fun q us hl => match us, hl with | [], _ => ⟨rfl, fun _ _ _ _ _ => rfl⟩) (fun q cl c2 f2 A2 o2 s2 H2 E2 cx => (e_callw (m := ⟨"price", 36, 3, ["copy", "mark"], [.p 0, .p 1, .p 2, .k 0, .k 1], []⟩) cx 3 7 (e_cons snd_int (e_cons snd_int (e_cons snd_int e_nil))) (k_cons (e_rd 0) (k_cons snd_non k_nil))))) (snd_lst (e_cons snd_str (e_cons (e_rd 0) e_nil))))) (sns_cons (sns_ret snd_bl)
      sns_nil) sns_nil)
      (sns_cons (sns_if (t_pe (e_cmp cx (e_lamA (X := cxOf _ _ _ _ _ _ _ _ _ _ _ _ _ _ _ _) (x := "_law_caught") (a := "_law_call") (ps := []) (fr := ["_law_odd"]) (vs := []) cx hr lm false fk33 sc33 (fk33.bindsN (ps := ["_law_call"]) fun _ _ _ _ _ _ us hl => match us, hl with | [_], _ => rfl) (cx.fc 5 (.glo "_law_caught") rfl) (cat33 cx) rfl (.inl rfl) rfl (NdefX.nscope_by (by decide +kernel)) (.none rfl rfl) rfl (by rfl) rfl (fun q us hl => match us, hl with | [], _ => ⟨rfl, fun _ _ _ _ _ => rfl⟩) (fun q cl c2 f2 A2 o2 s2 H2 E2 cx => (e_callw (m := ⟨"best_sizes", 31, 2, ["mark"], [.p 0, .p 1, .d 0 (.int 1), .k 0], [(.int 1)]⟩) cx 2 4 (e_cons snd_int (e_cons snd_int e_nil)) (k_cons (e_rd 0) k_nil)))) (snd_lst (e_cons snd_str (e_cons (e_rd 0) e_nil))))) (sns_cons (sns_ret snd_bl)
      sns_nil) sns_nil)
      sns_nil)))
      (sns_cons (s_for cx own_of (sni_e (snd_lst (e_cons snd_non (e_cons snd_int (e_cons (snd_lst (e_cons snd_int e_nil)) (e_cons (snd_lst (e_cons (snd_neg snd_int) e_nil)) (e_cons (snd_lst (e_cons snd_int (e_cons snd_int e_nil))) (e_cons (snd_lst (e_cons snd_str e_nil)) (e_cons (snd_lst (e_cons snd_bl e_nil)) (e_cons (e_dct (pd_int snd_int pd_nil)) (e_cons (snd_lst (e_cons snd_non e_nil)) e_nil))))))))))) (g_var cx 0) (sns_cons (sns_if (t_pe (e_neE cx (e_lamA (X := cxOf _ _ _ _ _ _ _ _ _ _ _ _ _ _ _ _) (x := "_law_caught") (a := "_law_call") (ps := []) (fr := ["_law_odd"]) (vs := []) cx hr lm false fk33 sc33 (fk33.bindsN (ps := ["_law_call"]) fun _ _ _ _ _ _ us hl => match us, hl with | [_], _ => rfl) (cx.fc 5 (.glo "_law_caught") rfl) (cat33 cx) rfl (.inl rfl) rfl (NdefX.nscope_by (by decide +kernel)) (.none rfl rfl) rfl (by rfl) rfl (fun q us hl => match us, hl with | [], _ => ⟨rfl, fun _ _ _ _ _ => rfl⟩) (fun q cl c2 f2 A2 o2 s2 H2 E2 cx => (e_call cx 35 (a_cons snd_int (a_cons snd_int (a_cons (e_rd 0) a_nil)))))) (snd_lst (e_cons snd_str (e_cons (e_rd 0) e_nil))))) (sns_cons (sns_ret snd_bl)
      sns_nil) sns_nil)
      sns_nil))
      (sns_cons (sns_ret (snd_and (e_cmp cx (e_lamA (X := cxOf _ _ _ _ _ _ _ _ _ _ _ _ _ _ _ _) (x := "_law_caught") (a := "_law_call") (ps := []) (fr := []) (vs := []) cx hr lm false fk33 sc33 (fk33.bindsN (ps := ["_law_call"]) fun _ _ _ _ _ _ us hl => match us, hl with | [_], _ => rfl) (cx.fc 5 (.glo "_law_caught") rfl) (cat33 cx) rfl (.inl rfl) rfl (NdefX.nscope_by (by decide +kernel)) (.none rfl rfl) rfl (by rfl) rfl (fun q us hl => match us, hl with | [], _ => ⟨rfl, fun _ _ _ _ _ => rfl⟩) (fun q cl c2 f2 A2 o2 s2 H2 E2 cx => (e_call cx 34 (a_cons snd_int (a_cons snd_int (a_cons snd_int a_nil)))))) (snd_lst (e_cons snd_str (e_cons snd_int e_nil)))) (snd_one (e_cmp cx (e_call cx 35 (a_cons snd_int (a_cons snd_int (a_cons (snd_lst e_nil) a_nil)))) (snd_lst e_nil)))))
      sns_nil))))
theorem sc31 : FnScope N31 ["blocks", "many", "copy", "mark"] (defScope st31) := ⟨rfl, rfl, rfl, by decide +kernel, rfl, by decide +kernel, by decide +kernel⟩
theorem bd31 (M : Mg P K w mg tx) (ih : IH P w K mg base d) : Bd P w K mg base (xrM K tx.xs) (xmM K tx.xs) (cstG tx.cs) tab d N31 "best_sizes" (defScope st31) f (defBody st31) fd31 := by
  intro cdv A outer s H E hr
  have cx := ct_of (cdv := cdv) (A := A) (outer := outer) (s := s) (H := H) (E := E) sc31 M ih hr
  exact (sns_cons (s_expr (e_call cx 43 (a_cons (e_rd 0) (a_cons snd_int (a_cons (e_cst cx 4 11) a_nil)))))
      (sns_cons (s_expr (e_call cx 43 (a_cons (e_rd 1) (a_cons snd_int (a_cons (e_rd 0) a_nil)))))
      (sns_cons (s_expr (e_call cx 43 (a_cons (e_rd 2) (a_cons snd_int (a_cons (e_cst cx 3 10) a_nil)))))
      (sns_cons (s_expr (e_call cx 43 (a_cons (e_rd 3) (a_cons snd_int (a_cons (e_cst cx 3 10) a_nil)))))
      (sns_cons (s_asgLc cx 4 [("size", 6)] (i_rng2 cx snd_int (snd_op (e_rd 0) snd_int)) (fun _ _ _ _ _ => (g_var (cx.blk) 6)) (fun _ _ _ _ _ => ts_nil) (fun _ _ _ _ _ => (e_callw (m := ⟨"price", 36, 3, ["copy", "mark"], [.p 0, .p 1, .p 2, .k 0, .k 1], []⟩) (cx.blk) 3 7 (e_cons (e_rd 0) (e_cons (e_rd 6) (e_cons (e_rd 1) e_nil))) (k_cons (e_rd 2) (k_cons (e_rd 3) k_nil)))))
      (sns_cons (s_asg cx 5 (e_min cx (e_cons (e_lc cx [("one", 7)] (sni_e (e_rd 4)) (fun _ _ _ _ _ => (g_var (cx.blk) 7)) (fun _ _ _ _ _ => ts_nil) (fun _ _ _ _ _ => (e_toint (cx.blk) (e_cons (e_rd 7) e_nil)))) e_nil)))
      (sns_cons (sns_ret (e_lc cx [("size", 6), ("one", 7)] (i_enum cx (e_rd 4)) (fun _ _ _ _ _ => (g_tup (cx.blk) (gs_cons (cx.blk) 6 (gs_cons (cx.blk) 7 gs_nil)))) (fun _ _ _ _ _ => (ts_one (t_pe (e_cmp (cx.blk) (e_rd 7) (e_rd 5))))) (fun _ _ _ _ _ => (snd_op (e_rd 6) snd_int))))
      sns_nil)))))))
theorem sc32 : FnScope N32 ["_law_blocks", "_law_size", "_law_many", "_law_each", "_law_sign"] (defScope st32) := ⟨rfl, rfl, rfl, by decide +kernel, rfl, by decide +kernel, by decide +kernel⟩
theorem bd32 (M : Mg P K w mg tx) (ih : IH P w K mg base d) : Bd P w K mg base (xrM K tx.xs) (xmM K tx.xs) (cstG tx.cs) tab d N32 "_law_price" (defScope st32) f (defBody st32) fd32 := by
  intro cdv A outer s H E hr
  have cx := ct_of (cdv := cdv) (A := A) (outer := outer) (s := s) (H := H) (E := E) sc32 M ih hr
  exact (sns_cons (s_asg cx 5 (snd_op (snd_op (snd_op (e_rd 0) (e_rd 1)) snd_int) (e_rd 1)))
      (sns_cons (sns_ret (snd_op (snd_op (e_rd 3) (e_min cx (e_cons (snd_op (e_rd 2) (e_rd 1)) (e_cons (e_rd 0) e_nil)))) (snd_op (e_rd 4) (e_min cx (e_cons (e_rd 2) (e_cons (e_rd 5) e_nil))))))
      sns_nil))
theorem sc34 : FnScope N34 ["blocks", "size", "many"] (defScope st34) := ⟨rfl, rfl, rfl, by decide +kernel, rfl, by decide +kernel, by decide +kernel⟩
theorem bd34 (M : Mg P K w mg tx) (ih : IH P w K mg base d) : Bd P w K mg base (xrM K tx.xs) (xmM K tx.xs) (cstG tx.cs) tab d N34 "most_copied" (defScope st34) f (defBody st34) fd34 := by
  intro cdv A outer s H E hr
  have cx := ct_of (cdv := cdv) (A := A) (outer := outer) (s := s) (H := H) (E := E) sc34 M ih hr
  exact (sns_cons (s_expr (e_call cx 44 (a_cons (e_rd 0) (a_cons (e_rd 1) (a_cons (e_rd 2) a_nil)))))
      (sns_cons (sns_ret (e_min cx (e_cons (snd_op (e_toint cx (e_cons (e_rd 2) e_nil)) (e_toint cx (e_cons (e_rd 1) e_nil))) (e_cons (e_toint cx (e_cons (e_rd 0) e_nil)) e_nil))))
      sns_nil))
theorem sc35 : FnScope N35 ["blocks", "size", "written"] (defScope st35) := ⟨rfl, rfl, rfl, by decide +kernel, rfl, by decide +kernel, by decide +kernel⟩
theorem bd35 (M : Mg P K w mg tx) (ih : IH P w K mg base d) : Bd P w K mg base (xrM K tx.xs) (xmM K tx.xs) (cstG tx.cs) tab d N35 "touched" (defScope st35) f (defBody st35) fd35 := by
  intro cdv A outer s H E hr
  have cx := ct_of (cdv := cdv) (A := A) (outer := outer) (s := s) (H := H) (E := E) sc35 M ih hr
  exact (sns_cons (s_expr (e_call cx 43 (a_cons (e_rd 0) (a_cons snd_int (a_cons (e_cst cx 3 10) a_nil)))))
      (sns_cons (s_expr (e_call cx 43 (a_cons (e_rd 1) (a_cons snd_int (a_cons (e_cst cx 3 10) a_nil)))))
      (sns_cons (s_expr (e_call cx 45 (a_cons (e_rd 0) (a_cons (e_rd 2) a_nil))))
      (sns_cons (sns_ret (e_srtS cx (z_sc cx [("block", 3)] (sni_e (e_rd 2)) (fun _ _ _ _ _ => (g_var (cx.blk) 3)) (fun _ _ _ _ _ => ts_nil) (fun _ _ _ _ _ => (snd_op (e_toint (cx.blk) (e_cons (e_rd 3) e_nil)) (e_rd 1))))))
      sns_nil))))
theorem sc36 : FnScope N36 ["blocks", "size", "many", "copy", "mark"] (defScope st36) := ⟨rfl, rfl, rfl, by decide +kernel, rfl, by decide +kernel, by decide +kernel⟩
theorem bd36 (M : Mg P K w mg tx) (ih : IH P w K mg base d) : Bd P w K mg base (xrM K tx.xs) (xmM K tx.xs) (cstG tx.cs) tab d N36 "price" (defScope st36) f (defBody st36) fd36 := by
  intro cdv A outer s H E hr
  have cx := ct_of (cdv := cdv) (A := A) (outer := outer) (s := s) (H := H) (E := E) sc36 M ih hr
  exact (sns_cons (s_expr (e_call cx 44 (a_cons (e_rd 0) (a_cons (e_rd 1) (a_cons (e_rd 2) a_nil)))))
      (sns_cons (s_expr (e_call cx 43 (a_cons (e_rd 3) (a_cons snd_int (a_cons (e_cst cx 3 10) a_nil)))))
      (sns_cons (s_expr (e_call cx 43 (a_cons (e_rd 4) (a_cons snd_int (a_cons (e_cst cx 3 10) a_nil)))))
      (sns_cons (sns_ret (snd_op (snd_op (e_rd 3) (e_call cx 34 (a_cons (e_rd 0) (a_cons (e_rd 1) (a_cons (e_rd 2) a_nil))))) (snd_op (e_rd 4) (e_call cx 39 (a_cons (e_rd 0) (a_cons (e_rd 1) (a_cons (e_rd 2) a_nil)))))))
      sns_nil))))
theorem sc37 : FnScope N37 ["blocks", "size", "many"] (defScope st37) := ⟨rfl, rfl, rfl, by decide +kernel, rfl, by decide +kernel, by decide +kernel⟩
theorem bd37 (M : Mg P K w mg tx) (ih : IH P w K mg base d) : Bd P w K mg base (xrM K tx.xs) (xmM K tx.xs) (cstG tx.cs) tab d N37 "spread" (defScope st37) f (defBody st37) fd37 := by
  intro cdv A outer s H E hr
  have cx := ct_of (cdv := cdv) (A := A) (outer := outer) (s := s) (H := H) (E := E) sc37 M ih hr
  exact (sns_cons (s_expr (e_call cx 44 (a_cons (e_rd 0) (a_cons (e_rd 1) (a_cons (e_rd 2) a_nil)))))
      (sns_cons (s_asg cx 3 (snd_sl (e_lrng3 cx snd_int (e_rd 0) (e_rd 1)) sno_none (sno_some (e_rd 2))))
      (sns_cons (s_asgLc cx 4 [("block", 5)] (i_rng1 cx (e_rd 0)) (fun _ _ _ _ _ => (g_var (cx.blk) 5)) (fun _ _ _ _ _ => (ts_one (t_pe (e_cmp (cx.blk) (snd_op (e_rd 5) (e_rd 1)) snd_int)))) (fun _ _ _ _ _ => (e_rd 5)))
      (sns_cons (sns_ret (e_sorted cx (e_cons (e_lc cx [("block", 5)] (sni_e (snd_op (e_rd 3) (snd_sl (e_rd 4) sno_none (sno_some (snd_op (e_rd 2) (e_len cx (e_cons (e_rd 3) e_nil))))))) (fun _ _ _ _ _ => (g_var (cx.blk) 5)) (fun _ _ _ _ _ => ts_nil) (fun _ _ _ _ _ => (e_toint (cx.blk) (e_cons (e_rd 5) e_nil)))) e_nil)))
      sns_nil))))
theorem sc38 : FnScope N38 ["blocks", "size", "many"] (defScope st38) := ⟨rfl, rfl, rfl, by decide +kernel, rfl, by decide +kernel, by decide +kernel⟩
theorem bd38 (M : Mg P K w mg tx) (ih : IH P w K mg base d) : Bd P w K mg base (xrM K tx.xs) (xmM K tx.xs) (cstG tx.cs) tab d N38 "packed" (defScope st38) f (defBody st38) fd38 := by
  intro cdv A outer s H E hr
  have cx := ct_of (cdv := cdv) (A := A) (outer := outer) (s := s) (H := H) (E := E) sc38 M ih hr
  exact (sns_cons (s_expr (e_call cx 44 (a_cons (e_rd 0) (a_cons (e_rd 1) (a_cons (e_rd 2) a_nil)))))
      (sns_cons (s_asg cx 3 (snd_op (e_rd 0) (e_rd 1)))
      (sns_cons (s_asg cx 4 (e_lrng1 cx (e_rd 2)))
      (sns_cons (sns_if (t_pe (e_cmp cx (e_rd 3) snd_int)) (sns_cons (s_retv 4)
      sns_nil) sns_nil)
      (sns_cons (s_asg cx 5 (e_min cx (e_cons (e_toint cx (e_cons (e_rd 2) e_nil)) (e_cons (e_rd 3) e_nil))))
      (sns_cons (s_asg cx 6 (snd_op (e_lrng1 cx (snd_op (e_rd 2) (e_rd 5))) (e_lrng2 cx (snd_op (e_rd 0) (e_rd 5)) (e_rd 0))))
      (sns_cons (sns_ret (snd_ife (t_pe (e_cmp cx (e_call cx 42 (a_cons (e_rd 0) (a_cons (e_rd 1) (a_cons (e_rd 6) a_nil)))) (e_call cx 42 (a_cons (e_rd 0) (a_cons (e_rd 1) (a_cons (e_rd 4) a_nil)))))) (e_rd 6) (e_rd 4)))
      sns_nil)))))))
theorem sc39 : FnScope N39 ["blocks", "size", "many"] (defScope st39) := ⟨rfl, rfl, rfl, by decide +kernel, rfl, by decide +kernel, by decide +kernel⟩
theorem bd39 (M : Mg P K w mg tx) (ih : IH P w K mg base d) : Bd P w K mg base (xrM K tx.xs) (xmM K tx.xs) (cstG tx.cs) tab d N39 "most_touched" (defScope st39) f (defBody st39) fd39 := by
  intro cdv A outer s H E hr
  have cx := ct_of (cdv := cdv) (A := A) (outer := outer) (s := s) (H := H) (E := E) sc39 M ih hr
  exact (sns_cons (s_expr (e_call cx 44 (a_cons (e_rd 0) (a_cons (e_rd 1) (a_cons (e_rd 2) a_nil)))))
      (sns_cons (sns_ret (e_min cx (e_cons (e_toint cx (e_cons (e_rd 2) e_nil)) (e_cons (e_call cx 46 (a_cons (e_rd 0) (a_cons (e_rd 1) a_nil))) e_nil))))
      sns_nil))
theorem sc40 : FnScope N40 ["blocks", "size", "many"] (defScope st40) := ⟨rfl, rfl, rfl, by decide +kernel, rfl, by decide +kernel, by decide +kernel⟩
theorem bd40 (M : Mg P K w mg tx) (ih : IH P w K mg base d) : Bd P w K mg base (xrM K tx.xs) (xmM K tx.xs) (cstG tx.cs) tab d N40 "least_touched" (defScope st40) f (defBody st40) fd40 := by
  intro cdv A outer s H E hr
  have cx := ct_of (cdv := cdv) (A := A) (outer := outer) (s := s) (H := H) (E := E) sc40 M ih hr
  exact (sns_cons (s_expr (e_call cx 44 (a_cons (e_rd 0) (a_cons (e_rd 1) (a_cons (e_rd 2) a_nil)))))
      (sns_cons (sns_ret (e_call cx 46 (a_cons (e_rd 2) (a_cons (e_rd 1) a_nil))))
      sns_nil))
theorem sc41 : FnScope N41 ["blocks", "size", "many"] (defScope st41) := ⟨rfl, rfl, rfl, by decide +kernel, rfl, by decide +kernel, by decide +kernel⟩
theorem bd41 (M : Mg P K w mg tx) (ih : IH P w K mg base d) : Bd P w K mg base (xrM K tx.xs) (xmM K tx.xs) (cstG tx.cs) tab d N41 "least_copied" (defScope st41) f (defBody st41) fd41 := by
  intro cdv A outer s H E hr
  have cx := ct_of (cdv := cdv) (A := A) (outer := outer) (s := s) (H := H) (E := E) sc41 M ih hr
  exact (sns_cons (sns_ret (e_call cx 42 (a_cons (e_rd 0) (a_cons (e_rd 1) (a_cons (e_call cx 38 (a_cons (e_rd 0) (a_cons (e_rd 1) (a_cons (e_rd 2) a_nil)))) a_nil)))))
      sns_nil)
theorem sc42 : FnScope N42 ["blocks", "size", "written"] (defScope st42) := ⟨rfl, rfl, rfl, by decide +kernel, rfl, by decide +kernel, by decide +kernel⟩
theorem bd42 (M : Mg P K w mg tx) (ih : IH P w K mg base d) : Bd P w K mg base (xrM K tx.xs) (xmM K tx.xs) (cstG tx.cs) tab d N42 "copied" (defScope st42) f (defBody st42) fd42 := by
  intro cdv A outer s H E hr
  have cx := ct_of (cdv := cdv) (A := A) (outer := outer) (s := s) (H := H) (E := E) sc42 M ih hr
  exact (sns_cons (sns_ret (e_sum cx (e_cons (e_lc cx [("region", 3)] (sni_e (e_call cx 35 (a_cons (e_rd 0) (a_cons (e_rd 1) (a_cons (e_rd 2) a_nil))))) (fun _ _ _ _ _ => (g_var (cx.blk) 3)) (fun _ _ _ _ _ => ts_nil) (fun _ _ _ _ _ => (e_call (cx.blk) 47 (a_cons (e_rd 0) (a_cons (e_rd 1) (a_cons (e_rd 3) a_nil)))))) e_nil)))
      sns_nil)
theorem sc43 : FnScope N43 ["thing", "least", "most"] (defScope st43) := ⟨rfl, rfl, rfl, by decide +kernel, rfl, by decide +kernel, by decide +kernel⟩
theorem bd43 (M : Mg P K w mg tx) (ih : IH P w K mg base d) : Bd P w K mg base (xrM K tx.xs) (xmM K tx.xs) (cstG tx.cs) tab d N43 "check_number" (defScope st43) f (defBody st43) fd43 := by
  intro cdv A outer s H E hr
  have cx := ct_of (cdv := cdv) (A := A) (outer := outer) (s := s) (H := H) (E := E) sc43 M ih hr
  exact (sns_cons (sns_if (snt_not (t_v (e_call cx 1 (a_cons (e_rd 0) (a_cons (e_rd 1) (a_cons (e_rd 2) a_nil)))))) (sns_cons (s_rais cx 0 (e_rd 0))
      sns_nil) sns_nil)
      sns_nil)
theorem sc44 : FnScope N44 ["blocks", "size", "many"] (defScope st44) := ⟨rfl, rfl, rfl, by decide +kernel, rfl, by decide +kernel, by decide +kernel⟩
theorem bd44 (M : Mg P K w mg tx) (ih : IH P w K mg base d) : Bd P w K mg base (xrM K tx.xs) (xmM K tx.xs) (cstG tx.cs) tab d N44 "check_store" (defScope st44) f (defBody st44) fd44 := by
  intro cdv A outer s H E hr
  have cx := ct_of (cdv := cdv) (A := A) (outer := outer) (s := s) (H := H) (E := E) sc44 M ih hr
  exact (sns_cons (s_expr (e_call cx 43 (a_cons (e_rd 0) (a_cons snd_int (a_cons (e_cst cx 3 10) a_nil)))))
      (sns_cons (s_expr (e_call cx 43 (a_cons (e_rd 1) (a_cons snd_int (a_cons (e_cst cx 3 10) a_nil)))))
      (sns_cons (s_expr (e_call cx 43 (a_cons (e_rd 2) (a_cons snd_int (a_cons (e_rd 0) a_nil)))))
      sns_nil)))
theorem sc45 : FnScope N45 ["blocks", "written"] (defScope st45) := ⟨rfl, rfl, rfl, by decide +kernel, rfl, by decide +kernel, by decide +kernel⟩
theorem bd45 (M : Mg P K w mg tx) (ih : IH P w K mg base d) : Bd P w K mg base (xrM K tx.xs) (xmM K tx.xs) (cstG tx.cs) tab d N45 "check_written" (defScope st45) f (defBody st45) fd45 := by
  intro cdv A outer s H E hr
  have cx := ct_of (cdv := cdv) (A := A) (outer := outer) (s := s) (H := H) (E := E) sc45 M ih hr
  exact (sns_cons (sns_if (t_w (snw_or (snt_not (t_v (e_call cx 2 (a_cons (e_rd 1) a_nil)))) (snw_one (snt_not (t_v (e_all cx (e_cons (e_lc cx [("block", 2)] (sni_e (e_rd 1)) (fun _ _ _ _ _ => (g_var (cx.blk) 2)) (fun _ _ _ _ _ => ts_nil) (fun _ _ _ _ _ => (e_call (cx.blk) 1 (a_cons (e_rd 2) (a_cons snd_int (a_cons (snd_op (e_rd 0) snd_int) a_nil)))))) e_nil))))))) (sns_cons (s_rais cx 0 (e_rd 1))
      sns_nil) sns_nil)
      (sns_cons (sns_if (t_pe (e_cmp cx (e_lenS cx (z_sc cx [("block", 2)] (sni_e (e_rd 1)) (fun _ _ _ _ _ => (g_var (cx.blk) 2)) (fun _ _ _ _ _ => ts_nil) (fun _ _ _ _ _ => (e_rd 2)))) (e_len cx (e_cons (e_rd 1) e_nil)))) (sns_cons (s_rais cx 0 (e_rd 1))
      sns_nil) sns_nil)
      sns_nil))
theorem sc46 : FnScope N46 ["number", "size"] (defScope st46) := ⟨rfl, rfl, rfl, by decide +kernel, rfl, by decide +kernel, by decide +kernel⟩
theorem bd46 (M : Mg P K w mg tx) (ih : IH P w K mg base d) : Bd P w K mg base (xrM K tx.xs) (xmM K tx.xs) (cstG tx.cs) tab d N46 "raised" (defScope st46) f (defBody st46) fd46 := by
  intro cdv A outer s H E hr
  have cx := ct_of (cdv := cdv) (A := A) (outer := outer) (s := s) (H := H) (E := E) sc46 M ih hr
  exact (sns_cons (sns_ret (snd_op (snd_op (snd_op (e_rd 0) (e_rd 1)) snd_int) (e_rd 1)))
      sns_nil)
theorem sc47 : FnScope N47 ["blocks", "size", "region"] (defScope st47) := ⟨rfl, rfl, rfl, by decide +kernel, rfl, by decide +kernel, by decide +kernel⟩
theorem bd47 (M : Mg P K w mg tx) (ih : IH P w K mg base d) : Bd P w K mg base (xrM K tx.xs) (xmM K tx.xs) (cstG tx.cs) tab d N47 "length_of" (defScope st47) f (defBody st47) fd47 := by
  intro cdv A outer s H E hr
  have cx := ct_of (cdv := cdv) (A := A) (outer := outer) (s := s) (H := H) (E := E) sc47 M ih hr
  exact (sns_cons (sns_ret (e_min cx (e_cons (e_toint cx (e_cons (e_rd 1) e_nil)) (e_cons (snd_op (e_toint cx (e_cons (e_rd 0) e_nil)) (snd_op (e_toint cx (e_cons (e_rd 2) e_nil)) (e_toint cx (e_cons (e_rd 1) e_nil)))) e_nil))))
      sns_nil)
def arw0 : List Ar := [.p 0, .p 1, .d 0 (.int 1), .d 1 (.int 1)]
theorem kbw0 (F : FunD K "best_sizes" "best_sizes" (defArgs st31) (defBody st31) (defScope st31) [] [("copy", .int 1), ("mark", .int 1)] (Ad.at_ K (.glo "best_sizes")) fd) : ∃ mv : List Value, KBn K fd ["blocks", "many", "copy", "mark"] 2 [] (fun us ws => gF arw0 us mv ws) (fun vs zs => gF arw0 vs (([(.int 1), (.int 1)] : List T).map litV) zs) :=
  FunD.kbinds0 F 2 [] [("copy", .int 1), ("mark", .int 1)] (fun {α} => gF arw0) (by simp) (by simp) (fun h1 h2 h3 => picks_rel h1 h2 h3 arw0) fun D doc pm an cdv ct us mv ws l1 l2 l3 => match us, mv, ws, l1, l2, l3 with
    | [_, _], [_, _], [], _, _, _ => ⟨_, _, _, _, _, _, rfl, rfl, ⟨_, _, _, _, _, _, rfl, rfl, rfl⟩⟩
def arw1 : List Ar := [.p 0, .p 1, .k 0, .k 1]
theorem kbw1 (F : FunD K "best_sizes" "best_sizes" (defArgs st31) (defBody st31) (defScope st31) [] [("copy", .int 1), ("mark", .int 1)] (Ad.at_ K (.glo "best_sizes")) fd) : ∃ mv : List Value, KBn K fd ["blocks", "many", "copy", "mark"] 2 ["copy", "mark"] (fun us ws => gF arw1 us mv ws) (fun vs zs => gF arw1 vs (([] : List T).map litV) zs) :=
  FunD.kbinds0 F 2 ["copy", "mark"] [] (fun {α} => gF arw1) (by simp) (by simp) (fun h1 h2 h3 => picks_rel h1 h2 h3 arw1) fun D doc pm an cdv ct us mv ws l1 l2 l3 => match us, mv, ws, l1, l2, l3 with
    | [_, _], [], [_, _], _, _, _ => by show _ = _; kernel_rfl
def arw2 : List Ar := [.p 0, .p 1, .d 0 (.int 1), .k 0]
theorem kbw2 (F : FunD K "best_sizes" "best_sizes" (defArgs st31) (defBody st31) (defScope st31) [] [("copy", .int 1), ("mark", .int 1)] (Ad.at_ K (.glo "best_sizes")) fd) : ∃ mv : List Value, KBn K fd ["blocks", "many", "copy", "mark"] 2 ["mark"] (fun us ws => gF arw2 us mv ws) (fun vs zs => gF arw2 vs (([(.int 1)] : List T).map litV) zs) :=
  FunD.kbinds0 F 2 ["mark"] [("copy", .int 1)] (fun {α} => gF arw2) (by simp) (by simp) (fun h1 h2 h3 => picks_rel h1 h2 h3 arw2) fun D doc pm an cdv ct us mv ws l1 l2 l3 => match us, mv, ws, l1, l2, l3 with
    | [_, _], [_], [_], _, _, _ => ⟨_, _, _, _, _, _, rfl, rfl, rfl⟩
def arw3 : List Ar := [.p 0, .p 1, .p 2, .k 0, .k 1]
theorem kbw3 (F : FunD K "price" "price" (defArgs st36) (defBody st36) (defScope st36) [] [("copy", .int 1), ("mark", .int 1)] (Ad.at_ K (.glo "price")) fd) : ∃ mv : List Value, KBn K fd ["blocks", "size", "many", "copy", "mark"] 3 ["copy", "mark"] (fun us ws => gF arw3 us mv ws) (fun vs zs => gF arw3 vs (([] : List T).map litV) zs) :=
  FunD.kbinds0 F 3 ["copy", "mark"] [] (fun {α} => gF arw3) (by simp) (by simp) (fun h1 h2 h3 => picks_rel h1 h2 h3 arw3) fun D doc pm an cdv ct us mv ws l1 l2 l3 => match us, mv, ws, l1, l2, l3 with
    | [_, _, _], [], [_, _], _, _, _ => by show _ = _; kernel_rfl
def arw4 : List Ar := [.p 0, .p 1, .p 2, .k 0, .d 0 (.int 1)]
theorem kbw4 (F : FunD K "price" "price" (defArgs st36) (defBody st36) (defScope st36) [] [("copy", .int 1), ("mark", .int 1)] (Ad.at_ K (.glo "price")) fd) : ∃ mv : List Value, KBn K fd ["blocks", "size", "many", "copy", "mark"] 3 ["copy"] (fun us ws => gF arw4 us mv ws) (fun vs zs => gF arw4 vs (([(.int 1)] : List T).map litV) zs) :=
  FunD.kbinds0 F 3 ["copy"] [("mark", .int 1)] (fun {α} => gF arw4) (by simp) (by simp) (fun h1 h2 h3 => picks_rel h1 h2 h3 arw4) fun D doc pm an cdv ct us mv ws l1 l2 l3 => match us, mv, ws, l1, l2, l3 with
    | [_, _, _], [_], [_], _, _, _ => ⟨_, _, _, _, _, _, rfl, rfl, rfl⟩
theorem zf0 (F : Fx w K) : FnA P w K mg base (xrM K tx.xs) (Cl 0) (4 * 0 + 1) 0 ((.glo "is_integer" : Ad).at_ K) [] 1 := by
  obtain ⟨fd, F1⟩ := ff0 F
  exact mkA0 (ps := ["thing"]) F1 rfl (fun _ _ _ _ _ _ us hl => match us, hl with | [_], _ => by kernel_rfl)
theorem zf1 (F : Fx w K) : FnA P w K mg base (xrM K tx.xs) (Cl 0) (4 * 0 + 1) 1 ((.glo "is_between" : Ad).at_ K) [] 3 := by
  obtain ⟨fd, F1⟩ := ff1 F
  exact mkA0 (ps := ["thing", "least", "most"]) F1 rfl (fun _ _ _ _ _ _ us hl => match us, hl with | [_, _, _], _ => by kernel_rfl)
theorem zf2 (F : Fx w K) : FnA P w K mg base (xrM K tx.xs) (Cl 0) (4 * 0 + 1) 2 ((.glo "is_row" : Ad).at_ K) [] 1 := by
  obtain ⟨fd, F1⟩ := ff2 F
  exact mkA0 (ps := ["thing"]) F1 rfl (fun _ _ _ _ _ _ us hl => match us, hl with | [_], _ => by kernel_rfl)
theorem zf20 (F : Fx w K) : FnA P w K mg base (xrM K tx.xs) (Cl 0) (4 * 0 + 1) 20 ((.glo "_law_pool" : Ad).at_ K) [] 2 := by
  obtain ⟨fd, F1⟩ := ff20 F
  exact mkA0 (ps := ["_law_script", "_law_k"]) F1 rfl (fun _ _ _ _ _ _ us hl => match us, hl with | [_, _], _ => by kernel_rfl)
theorem zf21 (F : Fx w K) : FnA P w K mg base (xrM K tx.xs) (Cl 0) (4 * 0 + 1) 21 ((.glo "_law_take" : Ad).at_ K) [0] 2 := by
  obtain ⟨fd, F1⟩ := ff21 F
  exact mkA0 (ps := ["_law_pool_here", "_law_many"]) F1 rfl (fun _ _ _ _ _ _ us hl => match us, hl with | [_, _], _ => by kernel_rfl)
theorem zf29 (F : Fx w K) : FnA P w K mg base (xrM K tx.xs) (Cl 0) (4 * 0 + 1) 29 ((.glo "law" : Ad).at_ K) [] 1 := by
  obtain ⟨fd, F1⟩ := ff29 F
  exact mkA0 (ps := ["_law_script"]) F1 rfl (fun _ _ _ _ _ _ us hl => match us, hl with | [_], _ => by kernel_rfl)
theorem zf30 (F : Fx w K) : FnA P w K mg base (xrM K tx.xs) (Cl 0) (4 * 0 + 1) 30 ((.glo "_law_refused" : Ad).at_ K) [] 0 := by
  obtain ⟨fd, F1⟩ := ff30 F
  exact mkA0 (ps := []) F1 rfl (fun _ _ _ _ _ _ us hl => match us, hl with | [], _ => by kernel_rfl)
theorem zf32 (F : Fx w K) : FnA P w K mg base (xrM K tx.xs) (Cl 0) (4 * 0 + 1) 32 ((.glo "_law_price" : Ad).at_ K) [] 5 := by
  obtain ⟨fd, F1⟩ := ff32 F
  exact mkA0 (ps := ["_law_blocks", "_law_size", "_law_many", "_law_each", "_law_sign"]) F1 rfl (fun _ _ _ _ _ _ us hl => match us, hl with | [_, _, _, _, _], _ => by kernel_rfl)
theorem zf34 (F : Fx w K) : FnA P w K mg base (xrM K tx.xs) (Cl 0) (4 * 0 + 1) 34 ((.glo "most_copied" : Ad).at_ K) [] 3 := by
  obtain ⟨fd, F1⟩ := ff34 F
  exact mkA0 (ps := ["blocks", "size", "many"]) F1 rfl (fun _ _ _ _ _ _ us hl => match us, hl with | [_, _, _], _ => by kernel_rfl)
theorem zf35 (F : Fx w K) : FnA P w K mg base (xrM K tx.xs) (Cl 0) (4 * 0 + 1) 35 ((.glo "touched" : Ad).at_ K) [] 3 := by
  obtain ⟨fd, F1⟩ := ff35 F
  exact mkA0 (ps := ["blocks", "size", "written"]) F1 rfl (fun _ _ _ _ _ _ us hl => match us, hl with | [_, _, _], _ => by kernel_rfl)
theorem zf37 (F : Fx w K) : FnA P w K mg base (xrM K tx.xs) (Cl 0) (4 * 0 + 1) 37 ((.glo "spread" : Ad).at_ K) [] 3 := by
  obtain ⟨fd, F1⟩ := ff37 F
  exact mkA0 (ps := ["blocks", "size", "many"]) F1 rfl (fun _ _ _ _ _ _ us hl => match us, hl with | [_, _, _], _ => by kernel_rfl)
theorem zf38 (F : Fx w K) : FnA P w K mg base (xrM K tx.xs) (Cl 0) (4 * 0 + 1) 38 ((.glo "packed" : Ad).at_ K) [] 3 := by
  obtain ⟨fd, F1⟩ := ff38 F
  exact mkA0 (ps := ["blocks", "size", "many"]) F1 rfl (fun _ _ _ _ _ _ us hl => match us, hl with | [_, _, _], _ => by kernel_rfl)
theorem zf39 (F : Fx w K) : FnA P w K mg base (xrM K tx.xs) (Cl 0) (4 * 0 + 1) 39 ((.glo "most_touched" : Ad).at_ K) [] 3 := by
  obtain ⟨fd, F1⟩ := ff39 F
  exact mkA0 (ps := ["blocks", "size", "many"]) F1 rfl (fun _ _ _ _ _ _ us hl => match us, hl with | [_, _, _], _ => by kernel_rfl)
theorem zf40 (F : Fx w K) : FnA P w K mg base (xrM K tx.xs) (Cl 0) (4 * 0 + 1) 40 ((.glo "least_touched" : Ad).at_ K) [] 3 := by
  obtain ⟨fd, F1⟩ := ff40 F
  exact mkA0 (ps := ["blocks", "size", "many"]) F1 rfl (fun _ _ _ _ _ _ us hl => match us, hl with | [_, _, _], _ => by kernel_rfl)
theorem zf41 (F : Fx w K) : FnA P w K mg base (xrM K tx.xs) (Cl 0) (4 * 0 + 1) 41 ((.glo "least_copied" : Ad).at_ K) [] 3 := by
  obtain ⟨fd, F1⟩ := ff41 F
  exact mkA0 (ps := ["blocks", "size", "many"]) F1 rfl (fun _ _ _ _ _ _ us hl => match us, hl with | [_, _, _], _ => by kernel_rfl)
theorem zf42 (F : Fx w K) : FnA P w K mg base (xrM K tx.xs) (Cl 0) (4 * 0 + 1) 42 ((.glo "copied" : Ad).at_ K) [] 3 := by
  obtain ⟨fd, F1⟩ := ff42 F
  exact mkA0 (ps := ["blocks", "size", "written"]) F1 rfl (fun _ _ _ _ _ _ us hl => match us, hl with | [_, _, _], _ => by kernel_rfl)
theorem zf43 (F : Fx w K) : FnA P w K mg base (xrM K tx.xs) (Cl 0) (4 * 0 + 1) 43 ((.glo "check_number" : Ad).at_ K) [] 3 := by
  obtain ⟨fd, F1⟩ := ff43 F
  exact mkA0 (ps := ["thing", "least", "most"]) F1 rfl (fun _ _ _ _ _ _ us hl => match us, hl with | [_, _, _], _ => by kernel_rfl)
theorem zf44 (F : Fx w K) : FnA P w K mg base (xrM K tx.xs) (Cl 0) (4 * 0 + 1) 44 ((.glo "check_store" : Ad).at_ K) [] 3 := by
  obtain ⟨fd, F1⟩ := ff44 F
  exact mkA0 (ps := ["blocks", "size", "many"]) F1 rfl (fun _ _ _ _ _ _ us hl => match us, hl with | [_, _, _], _ => by kernel_rfl)
theorem zf45 (F : Fx w K) : FnA P w K mg base (xrM K tx.xs) (Cl 0) (4 * 0 + 1) 45 ((.glo "check_written" : Ad).at_ K) [] 2 := by
  obtain ⟨fd, F1⟩ := ff45 F
  exact mkA0 (ps := ["blocks", "written"]) F1 rfl (fun _ _ _ _ _ _ us hl => match us, hl with | [_, _], _ => by kernel_rfl)
theorem zf46 (F : Fx w K) : FnA P w K mg base (xrM K tx.xs) (Cl 0) (4 * 0 + 1) 46 ((.glo "raised" : Ad).at_ K) [] 2 := by
  obtain ⟨fd, F1⟩ := ff46 F
  exact mkA0 (ps := ["number", "size"]) F1 rfl (fun _ _ _ _ _ _ us hl => match us, hl with | [_, _], _ => by kernel_rfl)
theorem zf47 (F : Fx w K) : FnA P w K mg base (xrM K tx.xs) (Cl 0) (4 * 0 + 1) 47 ((.glo "length_of" : Ad).at_ K) [] 3 := by
  obtain ⟨fd, F1⟩ := ff47 F
  exact mkA0 (ps := ["blocks", "size", "region"]) F1 rfl (fun _ _ _ _ _ _ us hl => match us, hl with | [_, _, _], _ => by kernel_rfl)
theorem sf0 (M : Mg P K w mg tx) (F : Fx w K) (ih : IH P w K mg base d) : FnA P w K mg base (xrM K tx.xs) (Cl (d + 1)) (4 * (d + 1) + 1) 0 ((.glo "is_integer" : Ad).at_ K) [] 1 := by
  obtain ⟨fd, F1⟩ := ff0 F
  exact mkA (fd0 := Sh.fd0) F1 sc0 rfl rfl rfl rfl rfl (by decide) rfl (fun _ _ _ _ _ _ us hl => match us, hl with | [_], _ => by kernel_rfl) (bd0 M ih)
theorem sf1 (M : Mg P K w mg tx) (F : Fx w K) (ih : IH P w K mg base d) : FnA P w K mg base (xrM K tx.xs) (Cl (d + 1)) (4 * (d + 1) + 1) 1 ((.glo "is_between" : Ad).at_ K) [] 3 := by
  obtain ⟨fd, F1⟩ := ff1 F
  exact mkA (fd0 := Sh.fd1) F1 sc1 rfl rfl rfl rfl rfl (by decide) rfl (fun _ _ _ _ _ _ us hl => match us, hl with | [_, _, _], _ => by kernel_rfl) (bd1 M ih)
theorem sf2 (M : Mg P K w mg tx) (F : Fx w K) (ih : IH P w K mg base d) : FnA P w K mg base (xrM K tx.xs) (Cl (d + 1)) (4 * (d + 1) + 1) 2 ((.glo "is_row" : Ad).at_ K) [] 1 := by
  obtain ⟨fd, F1⟩ := ff2 F
  exact mkA (fd0 := Sh.fd2) F1 sc2 rfl rfl rfl rfl rfl (by decide) rfl (fun _ _ _ _ _ _ us hl => match us, hl with | [_], _ => by kernel_rfl) (bd2 M ih)
theorem sf20 (M : Mg P K w mg tx) (F : Fx w K) (ih : IH P w K mg base d) : FnA P w K mg base (xrM K tx.xs) (Cl (d + 1)) (4 * (d + 1) + 1) 20 ((.glo "_law_pool" : Ad).at_ K) [] 2 := by
  obtain ⟨fd, F1⟩ := ff20 F
  exact mkA (fd0 := fd20) F1 sc20 rfl rfl rfl rfl rfl (by decide) rfl (fun _ _ _ _ _ _ us hl => match us, hl with | [_, _], _ => by kernel_rfl) (bd20 M ih)
theorem sf21 (M : Mg P K w mg tx) (F : Fx w K) (ih : IH P w K mg base d) : FnA P w K mg base (xrM K tx.xs) (Cl (d + 1)) (4 * (d + 1) + 1) 21 ((.glo "_law_take" : Ad).at_ K) [0] 2 := by
  obtain ⟨fd, F1⟩ := ff21 F
  exact mkA (fd0 := fd21) F1 sc21 rfl rfl rfl rfl rfl (by decide) rfl (fun _ _ _ _ _ _ us hl => match us, hl with | [_, _], _ => by kernel_rfl) (bd21 M ih)
theorem sf29 (M : Mg P K w mg tx) (F : Fx w K) (ih : IH P w K mg base d) : FnA P w K mg base (xrM K tx.xs) (Cl (d + 1)) (4 * (d + 1) + 1) 29 ((.glo "law" : Ad).at_ K) [] 1 := by
  obtain ⟨fd, F1⟩ := ff29 F
  exact mkA (fd0 := fd29) F1 sc29 rfl rfl rfl rfl rfl (by decide) rfl (fun _ _ _ _ _ _ us hl => match us, hl with | [_], _ => by kernel_rfl) (bd29 M ih)
theorem sf30 (M : Mg P K w mg tx) (F : Fx w K) (LM : LMs K base mg) (ih : IH P w K mg base d) : FnA P w K mg base (xrM K tx.xs) (Cl (d + 1)) (4 * (d + 1) + 1) 30 ((.glo "_law_refused" : Ad).at_ K) [] 0 := by
  obtain ⟨fd, F1⟩ := ff30 F
  exact mkAL (fd0 := fd30) F1 sc30 rfl rfl rfl rfl rfl (by decide) rfl (fun _ _ _ _ _ _ us hl => match us, hl with | [], _ => by kernel_rfl) (bd30 M F LM F1 ih)
theorem sf32 (M : Mg P K w mg tx) (F : Fx w K) (ih : IH P w K mg base d) : FnA P w K mg base (xrM K tx.xs) (Cl (d + 1)) (4 * (d + 1) + 1) 32 ((.glo "_law_price" : Ad).at_ K) [] 5 := by
  obtain ⟨fd, F1⟩ := ff32 F
  exact mkA (fd0 := fd32) F1 sc32 rfl rfl rfl rfl rfl (by decide) rfl (fun _ _ _ _ _ _ us hl => match us, hl with | [_, _, _, _, _], _ => by kernel_rfl) (bd32 M ih)
theorem sf34 (M : Mg P K w mg tx) (F : Fx w K) (ih : IH P w K mg base d) : FnA P w K mg base (xrM K tx.xs) (Cl (d + 1)) (4 * (d + 1) + 1) 34 ((.glo "most_copied" : Ad).at_ K) [] 3 := by
  obtain ⟨fd, F1⟩ := ff34 F
  exact mkA (fd0 := fd34) F1 sc34 rfl rfl rfl rfl rfl (by decide) rfl (fun _ _ _ _ _ _ us hl => match us, hl with | [_, _, _], _ => by kernel_rfl) (bd34 M ih)
theorem sf35 (M : Mg P K w mg tx) (F : Fx w K) (ih : IH P w K mg base d) : FnA P w K mg base (xrM K tx.xs) (Cl (d + 1)) (4 * (d + 1) + 1) 35 ((.glo "touched" : Ad).at_ K) [] 3 := by
  obtain ⟨fd, F1⟩ := ff35 F
  exact mkA (fd0 := fd35) F1 sc35 rfl rfl rfl rfl rfl (by decide) rfl (fun _ _ _ _ _ _ us hl => match us, hl with | [_, _, _], _ => by kernel_rfl) (bd35 M ih)
theorem sf37 (M : Mg P K w mg tx) (F : Fx w K) (ih : IH P w K mg base d) : FnA P w K mg base (xrM K tx.xs) (Cl (d + 1)) (4 * (d + 1) + 1) 37 ((.glo "spread" : Ad).at_ K) [] 3 := by
  obtain ⟨fd, F1⟩ := ff37 F
  exact mkA (fd0 := fd37) F1 sc37 rfl rfl rfl rfl rfl (by decide) rfl (fun _ _ _ _ _ _ us hl => match us, hl with | [_, _, _], _ => by kernel_rfl) (bd37 M ih)
theorem sf38 (M : Mg P K w mg tx) (F : Fx w K) (ih : IH P w K mg base d) : FnA P w K mg base (xrM K tx.xs) (Cl (d + 1)) (4 * (d + 1) + 1) 38 ((.glo "packed" : Ad).at_ K) [] 3 := by
  obtain ⟨fd, F1⟩ := ff38 F
  exact mkA (fd0 := fd38) F1 sc38 rfl rfl rfl rfl rfl (by decide) rfl (fun _ _ _ _ _ _ us hl => match us, hl with | [_, _, _], _ => by kernel_rfl) (bd38 M ih)
theorem sf39 (M : Mg P K w mg tx) (F : Fx w K) (ih : IH P w K mg base d) : FnA P w K mg base (xrM K tx.xs) (Cl (d + 1)) (4 * (d + 1) + 1) 39 ((.glo "most_touched" : Ad).at_ K) [] 3 := by
  obtain ⟨fd, F1⟩ := ff39 F
  exact mkA (fd0 := fd39) F1 sc39 rfl rfl rfl rfl rfl (by decide) rfl (fun _ _ _ _ _ _ us hl => match us, hl with | [_, _, _], _ => by kernel_rfl) (bd39 M ih)
theorem sf40 (M : Mg P K w mg tx) (F : Fx w K) (ih : IH P w K mg base d) : FnA P w K mg base (xrM K tx.xs) (Cl (d + 1)) (4 * (d + 1) + 1) 40 ((.glo "least_touched" : Ad).at_ K) [] 3 := by
  obtain ⟨fd, F1⟩ := ff40 F
  exact mkA (fd0 := fd40) F1 sc40 rfl rfl rfl rfl rfl (by decide) rfl (fun _ _ _ _ _ _ us hl => match us, hl with | [_, _, _], _ => by kernel_rfl) (bd40 M ih)
theorem sf41 (M : Mg P K w mg tx) (F : Fx w K) (ih : IH P w K mg base d) : FnA P w K mg base (xrM K tx.xs) (Cl (d + 1)) (4 * (d + 1) + 1) 41 ((.glo "least_copied" : Ad).at_ K) [] 3 := by
  obtain ⟨fd, F1⟩ := ff41 F
  exact mkA (fd0 := fd41) F1 sc41 rfl rfl rfl rfl rfl (by decide) rfl (fun _ _ _ _ _ _ us hl => match us, hl with | [_, _, _], _ => by kernel_rfl) (bd41 M ih)
theorem sf42 (M : Mg P K w mg tx) (F : Fx w K) (ih : IH P w K mg base d) : FnA P w K mg base (xrM K tx.xs) (Cl (d + 1)) (4 * (d + 1) + 1) 42 ((.glo "copied" : Ad).at_ K) [] 3 := by
  obtain ⟨fd, F1⟩ := ff42 F
  exact mkA (fd0 := fd42) F1 sc42 rfl rfl rfl rfl rfl (by decide) rfl (fun _ _ _ _ _ _ us hl => match us, hl with | [_, _, _], _ => by kernel_rfl) (bd42 M ih)
theorem sf43 (M : Mg P K w mg tx) (F : Fx w K) (ih : IH P w K mg base d) : FnA P w K mg base (xrM K tx.xs) (Cl (d + 1)) (4 * (d + 1) + 1) 43 ((.glo "check_number" : Ad).at_ K) [] 3 := by
  obtain ⟨fd, F1⟩ := ff43 F
  exact mkA (fd0 := fd43) F1 sc43 rfl rfl rfl rfl rfl (by decide) rfl (fun _ _ _ _ _ _ us hl => match us, hl with | [_, _, _], _ => by kernel_rfl) (bd43 M ih)
theorem sf44 (M : Mg P K w mg tx) (F : Fx w K) (ih : IH P w K mg base d) : FnA P w K mg base (xrM K tx.xs) (Cl (d + 1)) (4 * (d + 1) + 1) 44 ((.glo "check_store" : Ad).at_ K) [] 3 := by
  obtain ⟨fd, F1⟩ := ff44 F
  exact mkA (fd0 := fd44) F1 sc44 rfl rfl rfl rfl rfl (by decide) rfl (fun _ _ _ _ _ _ us hl => match us, hl with | [_, _, _], _ => by kernel_rfl) (bd44 M ih)
theorem sf45 (M : Mg P K w mg tx) (F : Fx w K) (ih : IH P w K mg base d) : FnA P w K mg base (xrM K tx.xs) (Cl (d + 1)) (4 * (d + 1) + 1) 45 ((.glo "check_written" : Ad).at_ K) [] 2 := by
  obtain ⟨fd, F1⟩ := ff45 F
  exact mkA (fd0 := fd45) F1 sc45 rfl rfl rfl rfl rfl (by decide) rfl (fun _ _ _ _ _ _ us hl => match us, hl with | [_, _], _ => by kernel_rfl) (bd45 M ih)
theorem sf46 (M : Mg P K w mg tx) (F : Fx w K) (ih : IH P w K mg base d) : FnA P w K mg base (xrM K tx.xs) (Cl (d + 1)) (4 * (d + 1) + 1) 46 ((.glo "raised" : Ad).at_ K) [] 2 := by
  obtain ⟨fd, F1⟩ := ff46 F
  exact mkA (fd0 := fd46) F1 sc46 rfl rfl rfl rfl rfl (by decide) rfl (fun _ _ _ _ _ _ us hl => match us, hl with | [_, _], _ => by kernel_rfl) (bd46 M ih)
theorem sf47 (M : Mg P K w mg tx) (F : Fx w K) (ih : IH P w K mg base d) : FnA P w K mg base (xrM K tx.xs) (Cl (d + 1)) (4 * (d + 1) + 1) 47 ((.glo "length_of" : Ad).at_ K) [] 3 := by
  obtain ⟨fd, F1⟩ := ff47 F
  exact mkA (fd0 := fd47) F1 sc47 rfl rfl rfl rfl rfl (by decide) rfl (fun _ _ _ _ _ _ us hl => match us, hl with | [_, _, _], _ => by kernel_rfl) (bd47 M ih)
theorem zero (M : Mg P K w mg tx) (F : Fx w K) : IH P w K mg base 0 where
  fn := fs_some 0 (zf0 F) (fs_some 1 (zf1 F) (fs_some 2 (zf2 F) (fs_none 3 (fs_none 4 (fs_none 5 (fs_none 6 (fs_none 7 (fs_none 8 (fs_none 9 (fs_none 10 (fs_none 11 (fs_none 12 (fs_none 13 (fs_none 14 (fs_none 15 (fs_none 16 (fs_none 17 (fs_none 18 (fs_none 19 (fs_some 20 (zf20 F) (fs_some 21 (zf21 F) (fs_none 22 (fs_none 23 (fs_none 24 (fs_none 25 (fs_none 26 (fs_none 27 (fs_none 28 (fs_some 29 (zf29 F) (fs_some 30 (zf30 F) (fs_none 31 (fs_some 32 (zf32 F) (fs_none 33 (fs_some 34 (zf34 F) (fs_some 35 (zf35 F) (fs_none 36 (fs_some 37 (zf37 F) (fs_some 38 (zf38 F) (fs_some 39 (zf39 F) (fs_some 40 (zf40 F) (fs_some 41 (zf41 F) (fs_some 42 (zf42 F) (fs_some 43 (zf43 F) (fs_some 44 (zf44 F) (fs_some 45 (zf45 F) (fs_some 46 (zf46 F) (fs_some 47 (zf47 F) (fs_nil 48))))))))))))))))))))))))))))))))))))))))))))))))
  mks := fun i m h => match i, h with
  | k + 0, h => nomatch (show none = some m from h)
  ms := fun i c f h => match i, h with
  | k + 0, h => nomatch (show none = some (c, f) from h)
  cw := fun i m h => match i, h with
  | 0, h => by
    cases (show some (⟨"best_sizes", 31, 2, [], [.p 0, .p 1, .d 0 (.int 1), .d 1 (.int 1)], [(.int 1), (.int 1)]⟩ : CwI) = some m from h)
    obtain ⟨fd, F1⟩ := ff31 F
    exact mkW0 F1 rfl (kbw0 F1) (by simp [ArOk, litB])
  | 1, h => by
    cases (show some (⟨"best_sizes", 31, 2, ["copy", "mark"], [.p 0, .p 1, .k 0, .k 1], []⟩ : CwI) = some m from h)
    obtain ⟨fd, F1⟩ := ff31 F
    exact mkW0 F1 rfl (kbw1 F1) (by simp [ArOk, litB])
  | 2, h => by
    cases (show some (⟨"best_sizes", 31, 2, ["mark"], [.p 0, .p 1, .d 0 (.int 1), .k 0], [(.int 1)]⟩ : CwI) = some m from h)
    obtain ⟨fd, F1⟩ := ff31 F
    exact mkW0 F1 rfl (kbw2 F1) (by simp [ArOk, litB])
  | 3, h => by
    cases (show some (⟨"price", 36, 3, ["copy", "mark"], [.p 0, .p 1, .p 2, .k 0, .k 1], []⟩ : CwI) = some m from h)
    obtain ⟨fd, F1⟩ := ff36 F
    exact mkW0 F1 rfl (kbw3 F1) (by simp [ArOk, litB])
  | 4, h => by
    cases (show some (⟨"price", 36, 3, ["copy"], [.p 0, .p 1, .p 2, .k 0, .d 0 (.int 1)], [(.int 1)]⟩ : CwI) = some m from h)
    obtain ⟨fd, F1⟩ := ff36 F
    exact mkW0 F1 rfl (kbw4 F1) (by simp [ArOk, litB])
  | k + 5, h => nomatch (show none = some m from h)
  kw := fun j i a ks h => match j, h with
  | k + 0, h => nomatch (show none = some (i, a, ks) from h)
theorem step (M : Mg P K w mg tx) (F : Fx w K) (LM : LMs K base mg) (ih : IH P w K mg base d) : IH P w K mg base (d + 1) where
  fn := fs_some 0 (sf0 M F ih) (fs_some 1 (sf1 M F ih) (fs_some 2 (sf2 M F ih) (fs_none 3 (fs_none 4 (fs_none 5 (fs_none 6 (fs_none 7 (fs_none 8 (fs_none 9 (fs_none 10 (fs_none 11 (fs_none 12 (fs_none 13 (fs_none 14 (fs_none 15 (fs_none 16 (fs_none 17 (fs_none 18 (fs_none 19 (fs_some 20 (sf20 M F ih) (fs_some 21 (sf21 M F ih) (fs_none 22 (fs_none 23 (fs_none 24 (fs_none 25 (fs_none 26 (fs_none 27 (fs_none 28 (fs_some 29 (sf29 M F ih) (fs_some 30 (sf30 M F LM ih) (fs_none 31 (fs_some 32 (sf32 M F ih) (fs_none 33 (fs_some 34 (sf34 M F ih) (fs_some 35 (sf35 M F ih) (fs_none 36 (fs_some 37 (sf37 M F ih) (fs_some 38 (sf38 M F ih) (fs_some 39 (sf39 M F ih) (fs_some 40 (sf40 M F ih) (fs_some 41 (sf41 M F ih) (fs_some 42 (sf42 M F ih) (fs_some 43 (sf43 M F ih) (fs_some 44 (sf44 M F ih) (fs_some 45 (sf45 M F ih) (fs_some 46 (sf46 M F ih) (fs_some 47 (sf47 M F ih) (fs_nil 48))))))))))))))))))))))))))))))))))))))))))))))))
  mks := fun i m h => match i, h with
  | k + 0, h => nomatch (show none = some m from h)
  ms := fun i c f h => match i, h with
  | k + 0, h => nomatch (show none = some (c, f) from h)
  cw := fun i m h => match i, h with
  | 0, h => by
    cases (show some (⟨"best_sizes", 31, 2, [], [.p 0, .p 1, .d 0 (.int 1), .d 1 (.int 1)], [(.int 1), (.int 1)]⟩ : CwI) = some m from h)
    obtain ⟨fd, F1⟩ := ff31 F
    exact mkW (fd0 := fd31) F1 sc31 rfl rfl rfl rfl rfl (by decide) rfl (kbw0 F1) (by simp [ArOk, litB]) (bd31 M ih)
  | 1, h => by
    cases (show some (⟨"best_sizes", 31, 2, ["copy", "mark"], [.p 0, .p 1, .k 0, .k 1], []⟩ : CwI) = some m from h)
    obtain ⟨fd, F1⟩ := ff31 F
    exact mkW (fd0 := fd31) F1 sc31 rfl rfl rfl rfl rfl (by decide) rfl (kbw1 F1) (by simp [ArOk, litB]) (bd31 M ih)
  | 2, h => by
    cases (show some (⟨"best_sizes", 31, 2, ["mark"], [.p 0, .p 1, .d 0 (.int 1), .k 0], [(.int 1)]⟩ : CwI) = some m from h)
    obtain ⟨fd, F1⟩ := ff31 F
    exact mkW (fd0 := fd31) F1 sc31 rfl rfl rfl rfl rfl (by decide) rfl (kbw2 F1) (by simp [ArOk, litB]) (bd31 M ih)
  | 3, h => by
    cases (show some (⟨"price", 36, 3, ["copy", "mark"], [.p 0, .p 1, .p 2, .k 0, .k 1], []⟩ : CwI) = some m from h)
    obtain ⟨fd, F1⟩ := ff36 F
    exact mkW (fd0 := fd36) F1 sc36 rfl rfl rfl rfl rfl (by decide) rfl (kbw3 F1) (by simp [ArOk, litB]) (bd36 M ih)
  | 4, h => by
    cases (show some (⟨"price", 36, 3, ["copy"], [.p 0, .p 1, .p 2, .k 0, .d 0 (.int 1)], [(.int 1)]⟩ : CwI) = some m from h)
    obtain ⟨fd, F1⟩ := ff36 F
    exact mkW (fd0 := fd36) F1 sc36 rfl rfl rfl rfl rfl (by decide) rfl (kbw4 F1) (by simp [ArOk, litB]) (bd36 M ih)
  | k + 5, h => nomatch (show none = some m from h)
  kw := fun j i a ks h => match j, h with
  | k + 0, h => nomatch (show none = some (i, a, ks) from h)
theorem all_ok (M : Mg P K w mg tx) (F : Fx w K) (LM : LMs K base mg) : ∀ d, IH P w K mg base d
  | 0 => zero M F
  | d + 1 => step M F LM (all_ok M F LM d)
end
theorem law_of (law : ∀ ns : List Int, ∃ o, Cl 9 29 [.val (.scr ns)] = .ok (.val (.bl true)) o) : PySem.Challenge.rw_markedregions_k71_whole_best_sizes_by_tr.Holds := by
  w_on; o_law
  refine HandSHeadRun.head_any (r := PySem.W.OpenLaw.row PySem.Challenge.rw_markedregions_k71_whole_best_sizes_by_tr) (q := PySem.W.view (PySem.W.OpenLaw.row PySem.Challenge.rw_markedregions_k71_whole_best_sizes_by_tr).prog [31]) (H := hk) (ob := ob) (M := 14000) (loose := names) (d := HandSHeadRun.topDef (PySem.W.OpenLaw.row PySem.Challenge.rw_markedregions_k71_whole_best_sizes_by_tr).prog 31) (kwd := []) ob_eq
    (by kernel_rfl) (fun s => by kernel_rfl) run (by kernel_rfl) (by kernel_rfl) (by kernel_rfl) (by rfl) (by first | assumption | decide +kernel) (by decide +kernel) ⟨rfl, rfl, rfl, rfl, rfl, by decide +kernel⟩ ?hw ?hc
  case hw => w_witness2
  case hc =>
    refine Ev.walk_ofT (l := PySem.Challenge.rw_markedregions_k71_whole_best_sizes_by_tr) (n := 63) (k := 4 * 9 + 1) (x := "_law_script") (CX := Ev.CXw PySem.Challenge.rw_markedregions_k71_whole_best_sizes_by_tr.prog) rfl (by decide) (by kernel_rfl) ⟨⟨rfl, by decide, by decide⟩, rfl⟩ ?F (fun H s e s' z => Ev.cxw_end _ H s e s' z)
    intro w mg fa h Y G hmg0
    obtain ⟨K, KX, c, g, k1, k2, eb⟩ := Y
    obtain ⟨cs, TA, t1, t2⟩ := lamsB_ts (K := K) k2 eb
    have hmg : mg ("law" : PySem.Str) = some (.ref fa) := by
      have e : (HandSHeadRun.topDef (PySem.W.OpenLaw.row PySem.Challenge.rw_markedregions_k71_whole_best_sizes_by_tr).prog 31).name = ("law" : PySem.Str) := by kernel_rfl
      rw [← e]
      exact hmg0
    have F : Fx w K := c
    have fc := fun i f e => c.fact KX G i f e
    have xcd := xcd_of (P := PySem.Challenge.rw_markedregions_k71_whole_best_sizes_by_tr.prog) (mg := mg) (d := xd0) (c.xdef 0 (d := xd0) rfl) rfl supS (by kernel_rfl) rfl rfl (by decide +kernel) (fc 40 _ rfl) (fun f cda cc => ⟨_, fun L => rfl⟩) (fun body doc pm an cdv ct cc us hl => match us, hl with | [_, _], _ => rfl)
    have M : Mg PySem.Challenge.rw_markedregions_k71_whole_best_sizes_by_tr.prog K w mg tx := mg_of fc (by decide +kernel) (fun base i x e => match i, e with
      | 0, e => by cases (show some ("BadNumber" : Str) = some x from e); exact xcs_of (fc 41 _ rfl) xcd base
      | k + 1, e => nomatch (show none = some x from e))
    obtain ⟨fd, FL⟩ := ff29 F
    have hm : mg ("law" : PySem.Str) = some (.ref (He.ga K "law")) := M.fc 24 (.glo "law") rfl
    have e := hmg.symm.trans hm
    cases e
    have b := FunD.bindsA (ps := ["_law_script"]) FL fun _ _ _ _ _ _ us hl => match us, hl with | [_], _ => rfl
    refine ⟨K, fd, spC K (xrM K tx.xs) (Cl 9) 29 [] 1, cs, KX, TA.keeps k1, fun s v => b s [v] rfl, fun H a ns hl hT hS => ?_, fun base hb hg TB => ?_⟩
    · obtain ⟨o, ho⟩ := law ns
      exact Ev.end_of (TBs.empty t1 hT) hS ho
    · have LM : LMs K base mg := t2 base mg TB
      exact Ev.fnOk_cx (Ev.fn_succ (k := 4 * 8 + 4) (i := 29) (fd0 := fd29) (tab := tab) FL sc29 rfl rfl rfl (by decide) (Ev.allLt_of (by decide)) (bd29 M (all_ok M F LM 8))) fun _ _ _ _ _ _ z => ⟨w, z⟩
end Zk71.H
--??   | .nil, [], env => some env
--??   | .v i r, t :: ts, env => if i < env.length then stP r ts 
--??   | .it i ks r, t :: ts, env => (match evK G C ks env, env[i
namespace Ev
open PySem L2
section
variable {G : Nat → Option T} {C : Calls} {env : Env}
theorem qE_int {i} : evE G C (.int i) env = (.ok (.val (.int i)) env : R (W)) := rfl
theorem qE_bl {b} : evE G C (.bl b) env = (.ok (.val (.bl b)) env : R (W)) := rfl
theorem qE_non : evE G C (.non) env = (.ok (.val .non) env : R (W)) := rfl
theorem qE_str {x} : evE G C (.str x) env = (.ok (.val (.str x)) env : R (W)) := rfl
theorem qE_cst {g} : evE G C (.cst g) env = (R.of ((G g).map .val) env : R (W)) := rfl
theorem qE_rd {i} : evE G C (.rd i) env = ((match env[i]? with
    | some (some w) => .ok (.val w.fz) (env.set i (some (.val w.fz)))
    | _ => .no) : R (W)) := rfl
theorem qE_rdx {i} {e} : evE G C (.rdx i e) env = ((match env[i]? with
    | some (some _) => (evE G C e env).bind fun k env1 => (match env1[i]? with
      | some (some (.val a)) => R.of ((ixT a k.fz).map .val) env1
      | some (some (.lst ws)) => (match k.fz with
        | .int j => (match atI ws j with
          | some (.val t) => .ok (.val t) env1
          | _ => .no)
        | _ => .no)
      | some (some (.nd (.dct ks) ws)) => (match (keyT k.fz).bind (getN ks ws) with
        | some (.val t) => .ok (.val t) env1
        | _ => .no)
      | _ => .no)
    | _ => .no) : R (W)) := rfl
theorem qE_op {o} {a} {b} : evE G C (.op o a b) env = ((evE G C a env).bind fun x env1 => (evE G C b env1).bind fun y env2 => R.of (opT o x.fz y.fz) env2 : R (W)) := rfl
theorem qE_neg {a} : evE G C (.neg a) env = ((evE G C a env).bind fun x env1 => (match x.fz with
    | .int i => .ok (.val (.int (-i))) env1
    | _ => .no) : R (W)) := rfl
theorem qE_cmp {o : CmpOp} {a} {b} : evE G C (.cmp o a b) env = ((evE G C a env).bind fun x env1 => (evE G C b env1).bind fun y env2 => R.of ((cmpT o x.fz y.fz).map fun b => .val (.bl b)) env2 : R (W)) := rfl
theorem qE_chn {o : CmpOp} {o' : CmpOp} {a} {b} {c} : evE G C (.chn o o' a b c) env = ((evE G C a env).bind fun x env1 => (evE G C b env1).bind fun y env2 => (match cmpT o x.fz y.fz with
    | some true => (evE G C c env2).bind fun z env3 => R.of ((cmpT o' y.fz z.fz).map fun b => .val (.bl b)) env3
    | some false => .ok (.val (.bl false)) env2
    | none => .no) : R (W)) := rfl
theorem qE_one {a} : evE G C (.one a) env = (evE G C a env : R (W)) := rfl
theorem qE_and {a} {b} : evE G C (.and a b) env = ((evE G C a env).bind fun x env1 => (match x.fz with
    | .bl true => evE G C b env1
    | .bl false => .ok (.val (.bl false)) env1
    | _ => .no) : R (W)) := rfl
theorem qE_or {a} {b} : evE G C (.or a b) env = ((evE G C a env).bind fun x env1 => (match x.fz with
    | .bl true => .ok (.val (.bl true)) env1
    | .bl false => evE G C b env1
    | _ => .no) : R (W)) := rfl
theorem qE_not {a} : evE G C (.not a) env = ((evE G C a env).bind fun x env1 => (match x.fz with
    | .bl b => .ok (.val (.bl (!b))) env1
    | _ => .no) : R (W)) := rfl
theorem qE_ife {c} {a} {b} : evE G C (.ife c a b) env = ((evT G C c env).bind fun k env1 => (match k with
    | true => evE G C a env1
    | false => evE G C b env1) : R (W)) := rfl
theorem qE_tup {es} : evE G C (.tup es) env = ((evEs G C es env).bind fun ws env1 => if decide (ws.length ≤ 16777216) then .ok (.val (.tup (fzs ws))) env1 else .no : R (W)) := rfl
theorem qE_lst {es} : evE G C (.lst es) env = ((evEs G C es env).bind fun ws env1 => if decide (ws.length ≤ 16777216) then .ok (.lst ws) env1 else .no : R (W)) := rfl
theorem qE_ix {a} {i} : evE G C (.ix a i) env = ((evE G C a env).bind fun x env1 => (evE G C i env1).bind fun y env2 => R.of ((ixT x.fz y.fz).map .val) env2 : R (W)) := rfl
theorem qE_sl {a} {lo} {hi} : evE G C (.sl a lo hi) env = ((evE G C a env).bind fun x env1 => (evO G C lo env1).bind fun l env2 => (evO G C hi env2).bind fun h env3 => R.of (slT x.fz l h) env3 : R (W)) := rfl
theorem qE_bi {b} {es} : evE G C (.bi b es) env = ((evEs G C es env).bind fun ws env1 => R.of (biT b (fzs ws)) env1 : R (W)) := rfl
theorem qE_isi {a} {c} : evE G C (.isi a c) env = ((evE G C a env).bind fun x env1 => R.of ((isiT [c] x.fz).map fun b => .val (.bl b)) env1 : R (W)) := rfl
theorem qE_isis {a} {cs} : evE G C (.isis a cs) env = ((evE G C a env).bind fun x env1 => R.of ((isiT cs x.fz).map fun b => .val (.bl b)) env1 : R (W)) := rfl
theorem qE_call {f} {as} {ds} : evE G C (.call f as ds) env = ((evA G C as env).bind fun ws env1 => (match C f (ws.1 ++ ds.map .val) with
    | .ok w outs => .ok w (backO ws.2 outs env1)
    | .exc c t outs => .exc c t (backO ws.2 outs env1)
    | .no => .no) : R (W)) := rfl
theorem qE_callk {f} {as} {ks} : evE G C (.callk f as ks) env = ((evA G C as env).bind fun ws env1 => (evA G C ks env1).bind fun us env2 => (match C f (ws.1 ++ us.1) with
    | .ok w outs => .ok w (backO ws.2 outs env2)
    | .exc c t outs => .exc c t (backO ws.2 outs env2)
    | .no => .no) : R (W)) := rfl
theorem qE_lc {own} {tg} {it} {cs} {e} : evE G C (.lc own tg it cs e) env = ((evI G C it env).bind fun ts env1 => if hidOk env1 own && tgIn tg own then (match lcL tg own (evTs G C cs) (evE G C e) ts [] (wipeE env1 own) with
    | .ok ws env2 => .ok (.lst ws) (backE env1 env2 own)
    | _ => .no) else .no : R (W)) := rfl
theorem qE_lenS {z} : evE G C (.lenS z) env = ((evSe G C z env).bind fun is env1 => .ok (.val (.int is.length)) env1 : R (W)) := rfl
theorem qE_srtS {z} : evE G C (.srtS z) env = ((evSe G C z env).bind fun is env1 => if decide (is.length < 64) then .ok (.lst ((sortI is).map fun i => .val (.int i))) env1 else .no : R (W)) := rfl
theorem qE_lrng3 {a} {b} {c} : evE G C (.lrng3 a b c) env = ((evE G C a env).bind fun x env1 => (evE G C b env1).bind fun y env2 => (evE G C c env2).bind fun z env3 => R.of ((rng3T x.fz y.fz z.fz).map fun is => .lst (is.map fun i => .val (.int i))) env3 : R (W)) := rfl
theorem qE_rev {a} : evE G C (.rev a) env = ((evE G C a env).bind fun x env1 => R.of (revT x.fz) env1 : R (W)) := rfl
theorem qE_alt {a} {b} : evE G C (.alt a b) env = ((match evE G C a env with
    | .no => evE G C b env
    | r => r) : R (W)) := rfl
theorem qE_fld {c} {f} {a} : evE G C (.fld c f a) env = ((evE G C a env).bind fun w env1 => R.of ((fldT c f w.fz).map .val) env1 : R (W)) := rfl
theorem qE_fldv {c} {f} {i} : evE G C (.fldv c f i) env = ((match env[i]? with
    | some (some (.val t)) => R.of ((fldT c f t).map .val) env
    | some (some (.nd (.ins c' fs) ws)) => if c' = c then (match getN fs ws f with
      | some (.val t) => .ok (.val t) env
      | _ => .no) else .no
    | _ => .no) : R (W)) := rfl
theorem qE_meth {c} {m} {f} {a} {as} {ds} : evE G C (.meth c m f a as ds) env = ((evE G C a env).bind fun w env1 => if isIns c m w.fz then (evA G C as env1).bind fun ws env2 => callR ws.2 (C f (.val w.fz :: (ws.1 ++ ds.map .val))) env2 else .no : R (W)) := rfl
theorem qE_methv {c} {m} {f} {i} {as} {ds} : evE G C (.methv c m f i as ds) env = ((match env[i]? with
    | some (some w0) => if isIns c m w0.fz then (evA G C as env).bind fun ws env2 => (match env2[i]? with
      | some (some w) => callR (i :: ws.2) (C f (w :: (ws.1 ++ ds.map .val))) (env2.set i none)
      | _ => .no) else .no
    | _ => .no) : R (W)) := rfl
theorem qE_prop {c} {f} {a} : evE G C (.prop c f a) env = ((evE G C a env).bind fun w env1 => if isOf c w.fz then (match C f [.val w.fz] with
    | .ok w' _ => .ok w' env1
    | _ => .no) else .no : R (W)) := rfl
theorem qE_new {c} {f} {es} {ks} {ar} : evE G C (.new c f es ks ar) env = ((evEs G C es env).bind fun ws env1 => (evEs G C ks env1).bind fun us env2 => (match arr (fzs ws) (fzs us) ar with
    | some ts => newR (C f (.nd (.ins c []) [] :: ts.map .val)) env2
    | none => .no) : R (W)) := rfl
theorem qE_newst {c} {f} {e} : evE G C (.newst c f e) env = ((evE G C e env).bind fun w env1 => (match w.fz with
    | .tup ts => if decide (ts.length ≤ 16777216) then newR (C f [.nd (.ins c []) [], .val (.tup ts)]) env1 else .no
    | .lst ts => if decide (ts.length ≤ 16777216) then newR (C f [.nd (.ins c []) [], .val (.tup ts)]) env1 else .no
    | _ => .no) : R (W)) := rfl
theorem qE_newdd {c} {f} {es} {e} {ks} {ar} : evE G C (.newdd c f es e ks ar) env = ((evEs G C es env).bind fun ws env1 => (evE G C e env1).bind fun w env2 => (match kdct w.fz with
    | some (js, us) => if isKw ks js then (match arr (fzs ws) us ar with
      | some ts => newR (C f (.nd (.ins c []) [] :: ts.map .val)) env2
      | none => .no) else .no
    | none => .no) : R (W)) := rfl
theorem qE_deq {a} {b} : evE G C (.deq a b) env = ((evE G C a env).bind fun x env1 => (evE G C b env1).bind fun y env2 => R.of ((deqT x.fz y.fz).map fun k => .val (.bl k)) env2 : R (W)) := rfl
theorem qE_callw {f} {es} {ks} {ar} : evE G C (.callw f es ks ar) env = ((evEs G C es env).bind fun ws env1 => (evEs G C ks env1).bind fun us env2 => (match arr (fzs ws) (fzs us) ar with
    | some ts => callR [] (C f (ts.map .val)) env2
    | none => .no) : R (W)) := rfl
theorem qE_own {c} {f} {a} {b} : evE G C (.own c f a b) env = ((evE G C a env).bind fun x env1 => (evE G C b env1).bind fun y env2 => if isOf c x.fz then callR [] (C f [.val x.fz, .val y.fz]) env2 else .no : R (W)) := rfl
theorem qE_ownE {c} {cs} {f} {a} {b} : evE G C (.ownE c cs f a b) env = ((evE G C a env).bind fun x env1 => (evE G C b env1).bind fun y env2 => if isOf c x.fz && (iscT c cs y.fz).isSome then callR [] (C f [.val x.fz, .val y.fz]) env2 else .no : R (W)) := rfl
theorem qE_ownB {c} {f} {a} {b} : evE G C (.ownB c f a b) env = ((evE G C a env).bind fun x env1 => (evE G C b env1).bind fun y env2 => if isOf c x.fz && isOf c y.fz then callR [] (C f [.val x.fz, .val y.fz]) env2 else .no : R (W)) := rfl
theorem qE_ownN {c} {f} {a} {b} : evE G C (.ownN c f a b) env = ((evE G C a env).bind fun x env1 => (evE G C b env1).bind fun y env2 => if isOf c x.fz && isOf c y.fz then (callR [] (C f [.val x.fz, .val y.fz]) env2).bind fun w env3 => (match w.fz with
    | .bl k => .ok (.val (.bl (!k))) env3
    | _ => .no) else .no : R (W)) := rfl
theorem qE_ownI {c} {f} {a} {b} : evE G C (.ownI c f a b) env = ((evE G C a env).bind fun x env1 => (evE G C b env1).bind fun y env2 => if isOf c y.fz then (callR [] (C f [.val y.fz, .val x.fz]) env2).bind fun w env3 => (match w.fz with
    | .bl k => .ok (.val (.bl k)) env3
    | _ => .no) else .no : R (W)) := rfl
theorem qE_isc {c} {cs} {a} : evE G C (.isc c cs a) env = ((evE G C a env).bind fun w env1 => R.of ((iscT c cs w.fz).map fun k => .val (.bl k)) env1 : R (W)) := rfl
theorem qE_isin {cs} {y} {a} : evE G C (.isin cs y a) env = ((evE G C a env).bind fun w env1 => R.of ((isinT cs y w.fz).map fun k => .val (.bl k)) env1 : R (W)) := rfl
theorem qE_isid {a} {cs} : evE G C (.isid a cs) env = ((evE G C a env).bind fun w env1 => R.of ((isidT cs w.fz).map fun k => .val (.bl k)) env1 : R (W)) := rfl
theorem qE_dct {ks} {es} : evE G C (.dct ks es) env = ((evEs G C es env).bind fun ws env1 => if decide (ks.length = ws.length) && decide (ks.length ≤ 15) then .ok (.nd (.dct ks) ws) env1 else .no : R (W)) := rfl
theorem qE_items {a} : evE G C (.items a) env = ((evE G C a env).bind fun w env1 => R.of (itemsT w.fz) env1 : R (W)) := rfl
theorem qE_kin {n} {a} : evE G C (.kin n a) env = ((evE G C a env).bind fun w env1 => (match (G n).bind kdct, w.fz with
    | some (ks, _), .str x => .ok (.val (.bl (ks.any fun j => decide (j = .inr x)))) env1
    | _, _ => .no) : R (W)) := rfl
theorem qE_kget {n} {a} : evE G C (.kget n a) env = ((evE G C a env).bind fun w env1 => (match (G n).bind kdct, w.fz with
    | some (ks, ts), .str x => R.of ((getN ks ts (.inr x)).map .val) env1
    | _, _ => .no) : R (W)) := rfl
theorem qE_klist {n} : evE G C (.klist n) env = ((match (G n).bind kdct with
    | some (ks, _) => .ok (.lst (ks.map fun k => .val (tKey k))) env
    | none => .no) : R (W)) := rfl
theorem qE_tadd {a} {b} : evE G C (.tadd a b) env = ((evE G C a env).bind fun x env1 => (evE G C b env1).bind fun y env2 => R.of ((taddT x.fz y.fz).map .val) env2 : R (W)) := rfl
theorem qE_tmul {a} {b} : evE G C (.tmul a b) env = ((evE G C a env).bind fun x env1 => (evE G C b env1).bind fun y env2 => R.of ((tmulT x.fz y.fz).map .val) env2 : R (W)) := rfl
theorem qE_tsl {a} {lo} {hi} : evE G C (.tsl a lo hi) env = ((evE G C a env).bind fun x env1 => (evO G C lo env1).bind fun l env2 => (evO G C hi env2).bind fun h env3 => R.of ((tslT l h x.fz).map .val) env3 : R (W)) := rfl
theorem qE_ssl {a} {lo} {hi} : evE G C (.ssl a lo hi) env = ((evE G C a env).bind fun x env1 => (evO G C lo env1).bind fun l env2 => (evO G C hi env2).bind fun h env3 => R.of ((sslT l h x.fz).map .val) env3 : R (W)) := rfl
theorem qE_frz {a} : evE G C (.frz a) env = ((evE G C a env).bind fun x env1 => .ok (.val x.fz) env1 : R (W)) := rfl
theorem qE_srtR {a} : evE G C (.srtR a) env = ((evE G C a env).bind fun x env1 => R.of (srtRT x.fz) env1 : R (W)) := rfl
theorem qE_popv {i} {e} : evE G C (.popv i e) env = ((match env[i]? with
    | some (some (.lst _)) => (evE G C e env).bind fun k env1 => (match env1[i]?, k.fz with
      | some (some (.lst ws)), .int j => (match L2.ixN ws.length j with
        | some n => (match ws[n]? with
          | some w => if decide (ws.length ≤ 16777216) then .ok w (env1.set i (some (.lst (ws.eraseIdx n)))) else .no
          | none => .no)
        | none => .no)
      | _, _ => .no)
    | _ => .no) : R (W)) := rfl
theorem qE_lenv {i} : evE G C (.lenv i) env = ((match env[i]? with
    | some (some w) => R.of (lenT [w.fz]) env
    | _ => .no) : R (W)) := rfl
theorem qE_cmpv {o} {i} {b} : evE G C (.cmpv o i b) env = ((match env[i]? with
    | some (some _) => (evE G C b env).bind fun y env1 => (match env1[i]? with
      | some (some w) => R.of ((cmpT o w.fz y.fz).map fun k => .val (.bl k)) env1
      | _ => .no)
    | _ => .no) : R (W)) := rfl
theorem qE_srtD {a} : evE G C (.srtD a) env = ((evE G C a env).bind fun x env1 => R.of (srtDT x.fz) env1 : R (W)) := rfl
theorem qE_str1 {a} : evE G C (.str1 a) env = ((evE G C a env).bind fun x env1 => R.of (str1T x.fz) env1 : R (W)) := rfl
theorem qE_sadd {a} {b} : evE G C (.sadd a b) env = ((evE G C a env).bind fun x env1 => (evE G C b env1).bind fun y env2 => R.of (saddT x.fz y.fz) env2 : R (W)) := rfl
theorem qE_fst {p} {a} {q} : evE G C (.fst_ p a q) env = ((evE G C a env).bind fun x env1 => R.of (fstT p q x.fz) env1 : R (W)) := rfl
theorem qE_join {z} {a} : evE G C (.join z a) env = ((evE G C a env).bind fun x env1 => R.of (joinT z x.fz) env1 : R (W)) := rfl
theorem qE_ownA {c} {f} {a} {b} : evE G C (.ownA c f a b) env = ((evE G C a env).bind fun x env1 => (evE G C b env1).bind fun y env2 => if isOf c x.fz && (tyT y.fz).any Ty.row then callR [] (C f [.val x.fz, .val y.fz]) env2 else .no : R (W)) := rfl
theorem qE_ownR {c} {f} {a} : evE G C (.ownR c f a) env = ((evE G C a env).bind fun x env1 => if isOf c x.fz then (match C f [.val x.fz] with
    | .ok w _ => (match w.fz with
      | .str z => .ok (.val (.str z)) env1
      | _ => .no)
    | _ => .no) else .no : R (W)) := rfl
theorem qE_ownL {c} {f} {a} : evE G C (.ownL c f a) env = ((evE G C a env).bind fun x env1 => if isOf c x.fz then (match C f [.val x.fz] with
    | .ok w _ => (match w.fz with
      | .int n => if decide (0 ≤ n) && decide (n ≤ 1000) then .ok (.val (.int n)) env1 else .no
      | _ => .no)
    | _ => .no) else .no : R (W)) := rfl
theorem qE_newN {c} {f} {es} : evE G C (.newN c f es) env = ((evEs G C es env).bind fun ws env1 => newR (C f [.nd (.ins c []) [], .val (.tup (fzs ws))]) env1 : R (W)) := rfl
theorem qE_lrng {a} {b} : evE G C (.lrng a b) env = ((evE G C a env).bind fun x env1 => (evO G C b env1).bind fun y env2 => R.of ((rngT x.fz y).map fun is => .lst (is.map fun i => .val (.int i))) env2 : R (W)) := rfl
theorem qE_dcn {a} : evE G C (.dcn a) env = ((evE G C a env).bind fun w env1 => (match w.fz with
    | .lst ts => R.of (dnT ts) env1
    | .tup ts => R.of (dnT ts) env1
    | _ => .no) : R (W)) := rfl
theorem qE_ind {a} {b} : evE G C (.ind a b) env = ((evE G C a env).bind fun x env1 => (evE G C b env1).bind fun y env2 => R.of ((inD x.fz y.fz).map fun k => .val (.bl k)) env2 : R (W)) := rfl
theorem qE_nind {a} {b} : evE G C (.nind a b) env = ((evE G C a env).bind fun x env1 => (evE G C b env1).bind fun y env2 => R.of ((inD x.fz y.fz).map fun k => .val (.bl (!k))) env2 : R (W)) := rfl
theorem qSe_of {e} : evSe G C (.of e) env = ((evE G C e env).bind fun w env1 => (match w.fz with
    | .lst ts => (match T.ints ts with
      | some is => if decide (is.length < 4095) then .ok (dedI [] is) env1 else .no
      | none => .no)
    | _ => .no) : R (List Int)) := rfl
theorem qEs_nil : evEs G C (.nil) env = (.ok [] env : R (List W)) := rfl
theorem qEs_cons {e} {es} : evEs G C (.cons e es) env = ((evE G C e env).bind fun w env1 => (evEs G C es env1).bind fun ws env2 => .ok (w :: ws) env2 : R (List W)) := rfl
theorem qO_no : evO G C (.no) env = (.ok none env : R (Option Int)) := rfl
theorem qO_so {e} : evO G C (.so e) env = ((evE G C e env).bind fun w env1 => (match w.fz with
    | .int i => .ok (some i) env1
    | _ => .no) : R (Option Int)) := rfl
theorem qT_v {e} : evT G C (.v e) env = ((evE G C e env).bind fun w env1 => R.of w.fz.tru env1 : R (Bool)) := rfl
theorem qT_one {a} : evT G C (.one a) env = (evT G C a env : R (Bool)) := rfl
theorem qT_and {a} {b} : evT G C (.and a b) env = ((evT G C a env).bind fun k env1 => (match k with
    | true => evT G C b env1
    | false => .ok false env1) : R (Bool)) := rfl
theorem qT_or {a} {b} : evT G C (.or a b) env = ((evT G C a env).bind fun k env1 => (match k with
    | true => .ok true env1
    | false => evT G C b env1) : R (Bool)) := rfl
theorem qT_not {a} : evT G C (.not a) env = ((evT G C a env).bind fun k env1 => .ok (!k) env1 : R (Bool)) := rfl
theorem qTs_nil : evTs G C (.nil) env = (.ok true env : R (Bool)) := rfl
theorem qTs_cons {c} {cs} : evTs G C (.cons c cs) env = ((evT G C c env).bind fun k env1 => (match k with
    | true => evTs G C cs env1
    | false => .ok false env1) : R (Bool)) := rfl
theorem qI_e {e} : evI G C (.e e) env = ((evE G C e env).bind fun w env1 => (match w.fz with
    | .lst ts => .ok ts env1
    | .tup ts => .ok ts env1
    | _ => .no) : R (List T)) := rfl
theorem qI_rng {a} {b} : evI G C (.rng a b) env = ((evE G C a env).bind fun x env1 => (evO G C b env1).bind fun y env2 => R.of ((rngT x.fz y).map fun is => is.map .int) env2 : R (List T)) := rfl
theorem qI_keys {e} : evI G C (.keys e) env = ((evE G C e env).bind fun w env1 => (match w with
    | .nd (.dct ks) _ => .ok (ks.map tKey) env1
    | .val (.nd (.dcl ks) _) => .ok (ks.map tKey) env1
    | _ => .no) : R (List T)) := rfl
theorem qI_keysv {i} : evI G C (.keysv i) env = ((match env[i]? with
    | some (some (.nd (.dct ks) ws)) => .ok (ks.map tKey) (env.set i (some (.val (.nd (.dcl ks) (fzs ws)))))
    | some (some (.val (.nd (.dcl ks) _))) => .ok (ks.map tKey) env
    | _ => .no) : R (List T)) := rfl
theorem qI_kk {n} : evI G C (.kk n) env = ((match (G n).bind kdct with
    | some (ks, _) => .ok (ks.map tKey) env
    | none => .no) : R (List T)) := rfl
theorem qI_dnk {e} : evI G C (.dnk e) env = ((evE G C e env).bind fun w env1 => (match w.fz with
    | .dn ts => .ok ts env1
    | _ => .no) : R (List T)) := rfl
theorem qI_enum {e} : evI G C (.enum e) env = ((evE G C e env).bind fun w env1 => (match w.fz with
    | .lst ts => .ok ((ts.zipIdx).map fun p => .tup [.int p.2, p.1]) env1
    | .tup ts => .ok ((ts.zipIdx).map fun p => .tup [.int p.2, p.1]) env1
    | _ => .no) : R (List T)) := rfl
theorem qI_zip {a} {b} : evI G C (.zip a b) env = ((evE G C a env).bind fun x env1 => (evE G C b env1).bind fun y env2 => (match x.fz, y.fz with
    | .tup ts, .tup us => .ok ((ts.zip us).map fun p => .tup [p.1, p.2]) env2
    | .lst ts, .lst us => .ok ((ts.zip us).map fun p => .tup [p.1, p.2]) env2
    | _, _ => .no) : R (List T)) := rfl
theorem qA_nil : evA G C (.nil) env = (.ok ([], []) env : R (List W × List Nat)) := rfl
theorem qA_cons {e} {as} : evA G C (.cons e as) env = ((evE G C e env).bind fun w env1 => (evA G C as env1).bind fun r env2 => .ok (.val w.fz :: r.1, r.2) env2 : R (List W × List Nat)) := rfl
theorem qA_io {i} {as} : evA G C (.io i as) env = ((match env[i]? with
    | some (some w) => (evA G C as (env.set i none)).bind fun r env2 => .ok (w :: r.1, i :: r.2) env2
    | _ => .no) : R (List W × List Nat)) := rfl
theorem qA_iol {i} {as} : evA G C (.iol i as) env = ((match env[i]? with
    | some (some _) => (evA G C as env).bind fun r env1 => (match env1[i]? with
      | some (some w) => .ok (w :: r.1, i :: r.2) (env1.set i none)
      | _ => .no)
    | _ => .no) : R (List W × List Nat)) := rfl
theorem qS_asg {i} {e} : evS G C (.asg i e) env = ((evE G C e env).bind fun w env1 => .ok .nx (env1.set i (some w)) : R (F)) := rfl
theorem qS_asgT {is} {e} : evS G C (.asgT is e) env = ((evE G C e env).bind fun w env1 => (match tgE (.tup is) w.fz env1 with
    | some env2 => .ok .nx env2
    | none => .no) : R (F)) := rfl
theorem qS_par {is} {es} : evS G C (.par is es) env = ((evEs G C es env).bind fun ws env1 => if is.length = ws.length then .ok .nx ((is.zip ws).foldl (fun e p => e.set p.1 (some p.2)) env1) else .no : R (F)) := rfl
theorem qS_setx {i} {k} {e} : evS G C (.setx i k e) env = ((evE G C e env).bind fun w env1 => (match env1[i]? with
    | some (some (.nd (.dct _) _)) => (evE G C k env1).bind fun y env2 => (match env2[i]?, keyT y.fz with
      | some (some (.nd (.dct ks) ws)), some j => if decide (ks.length < 16777216) then .ok .nx (env2.set i (some (.nd (.dct (putN ks j)) (putV ks ws j w)))) else .no
      | _, _ => .no)
    | some (some (.lst _)) => (evE G C k env1).bind fun y env2 => (match env2[i]? with
      | some (some (.lst ws)) => (match y.fz with
        | .int j => (match L2.ixN ws.length j with
          | some n => .ok .nx (env2.set i (some (.lst (ws.set n w))))
          | none => .no)
        | _ => .no)
      | _ => .no)
    | _ => .no) : R (F)) := rfl
theorem qS_app {i} {e} : evS G C (.app i e) env = ((match env[i]? with
    | some (some (.lst _)) => (evE G C e env).bind fun w env1 => (match env1[i]? with
      | some (some (.lst ws)) => if decide (ws.length < 16777216) then .ok .nx (env1.set i (some (.lst (ws ++ [w])))) else .no
      | _ => .no)
    | _ => .no) : R (F)) := rfl
theorem qS_expr {e} : evS G C (.expr e) env = ((evE G C e env).bind fun _ env1 => .ok .nx env1 : R (F)) := rfl
theorem qS_ret {e} : evS G C (.ret e) env = ((evE G C e env).bind fun w env1 => .ok (.rt w) env1 : R (F)) := rfl
theorem qS_retv {i} : evS G C (.retv i) env = ((match env[i]? with
    | some (some w) => .ok (.rt w) (env.set i none)
    | _ => .no) : R (F)) := rfl
theorem qS_retn : evS G C (.retn) env = (.ok (.rt (.val .non)) env : R (F)) := rfl
theorem qS_ife {c} {a} {b} : evS G C (.ife c a b) env = ((evT G C c env).bind fun k env1 => (match k with
    | true => evSs G C a env1
    | false => evSs G C b env1) : R (F)) := rfl
theorem qS_setf {c} {f} {i} {e} : evS G C (.setf c f i e) env = ((evE G C e env).bind fun w env1 => (match env1[i]? with
    | some (some (.nd (.ins c' fs) ws)) => if decide (c' = c) && decide (fs.length < 1000) then .ok .nx (env1.set i (some (.nd (.ins c (putN fs f)) (putV fs ws f w)))) else .no
    | _ => .no) : R (F)) := rfl
theorem qS_appx {i} {k} {e} : evS G C (.appx i k e) env = ((match env[i]? with
    | some (some (.lst _)) => (evE G C k env).bind fun j env1 => (match env1[i]?, j.fz with
      | some (some (.lst ws)), .int j => (match L2.ixN ws.length j with
        | some n => (match ws[n]? with
          | some (.lst us) => (evE G C e (env1.set i none)).bind fun w env2 => if decide (us.length < 16777216) then .ok .nx (env2.set i (some (.lst (ws.set n (.lst (us ++ [w])))))) else .no
          | _ => .no)
        | none => .no)
      | _, _ => .no)
    | _ => .no) : R (F)) := rfl
theorem qS_clrt {e} : evS G C (.clrt e) env = ((evE G C e env).bind fun w env1 => (match w with
    | .lst _ => .ok .nx env1
    | _ => .no) : R (F)) := rfl
theorem qS_ext {i} {e} : evS G C (.ext i e) env = ((match env[i]? with
    | some (some (.lst _)) => (evE G C e env).bind fun w env1 => (match env1[i]?, w with
      | some (some (.lst ws)), .lst us => if decide (ws.length + us.length ≤ 16777216) then .ok .nx (env1.set i (some (.lst (ws ++ us)))) else .no
      | _, _ => .no)
    | _ => .no) : R (F)) := rfl
theorem qS_appt {e} {x} : evS G C (.appt e x) env = ((evE G C e env).bind fun w env1 => (match w with
    | .lst ws => (evE G C x env1).bind fun _ env2 => if decide (ws.length < 16777216) then .ok .nx env2 else .no
    | _ => .no) : R (F)) := rfl
theorem qS_rais {c} {e} : evS G C (.rais c e) env = ((evE G C e env).bind fun w env1 => .exc c w.fz env1 : R (F)) := rfl
theorem qS_pass : evS G C (.pass) env = (.ok .nx env : R (F)) := rfl
theorem qS_never : evS G C (.never) env = (.no : R (F)) := rfl
theorem qSs_nil : evSs G C (.nil) env = (.ok .nx env : R (F)) := rfl
theorem qSs_cons {s} {ss} : evSs G C (.cons s ss) env = ((evS G C s env).bind fun f env1 => (match f with
    | .nx => evSs G C ss env1
    | f => .ok f env1)
 : R (F)) := rfl
end
end Ev
namespace Ev
open PySem
theorem set_back {α : Type} {l : List α} {i : Nat} {x y : α} (h : l[i]? = some y) : (l.set i x).set i y = l := by
  rw [List.set_set]
  exact set_same h
theorem fzs_iv : ∀ is : List Int, fzs (is.map fun i => W.val (.int i)) = is.map .int
  | [] => rfl
  | i :: r => congrArg (T.int i :: ·) (fzs_iv r)
theorem ints_map : ∀ is : List Int, T.ints (is.map .int) = some is
  | [] => rfl
  | i :: r => by
    show (T.ints (r.map .int)).map (i :: ·) = _
    rw [ints_map r]
    rfl
section
variable {α : Type} {e : α → T} {p : α → Bool} {f : α → W} {i : Nat} {test : Env → R Bool} {elt : Env → R W} {env : Env}
theorem hid_one {t : T} (h : i < env.length) : hidOk (env.set i (some (.val t))) [i] = true := by
  simp [hidOk, h]
theorem lcL_eq (hi : env[i]? = some none) : ∀ (xs : List α) (acc : List W), acc.length + xs.length ≤ 16777216 →
    (∀ a ∈ xs, test (env.set i (some (.val (e a)))) = .ok (p a) (env.set i (some (.val (e a)))) ∧ (p a = true → elt (env.set i (some (.val (e a)))) = .ok (f a) (env.set i (some (.val (e a)))))) →
    lcL (.var i) [i] test elt (xs.map e) acc env = .ok (acc ++ (xs.filter p).map f) env
  | [], acc, _, _ => by simp [lcL]
  | a :: r, acc, hl, h => by
    have hlt : i < env.length := (List.getElem?_eq_some_iff.mp hi).1
    obtain ⟨h1, h2⟩ := h a List.mem_cons_self
    have hr := fun acc' hl' => lcL_eq hi r acc' hl' fun b hb => h b (List.mem_cons_of_mem _ hb)
    rw [List.length_cons] at hl
    have hw : wipeE (env.set i (some (.val (e a)))) [i] = env := set_back hi
    show (match (if i < env.length then some (env.set i (some (.val (e a)))) else none) with
      | none => R.no
      | some env1 => _) = _
    rw [if_pos hlt]
    show ((test (env.set i (some (.val (e a))))).bind _) = _
    rw [h1]
    cases hp : p a with
    | true =>
      show ((elt (env.set i (some (.val (e a))))).bind _) = _
      rw [h2 hp]
      show (if (decide (acc.length < 16777216) && hidOk (env.set i (some (.val (e a)))) [i]) = true then lcL (.var i) [i] test elt (r.map e) (acc ++ [f a]) (wipeE (env.set i (some (.val (e a)))) [i]) else R.no) = _
      rw [hid_one hlt, hw, if_pos (by rw [Bool.and_true]; exact decide_eq_true (by omega)), hr _ (by rw [List.length_append, List.length_singleton]; omega), List.filter_cons_of_pos hp, List.map_cons, List.append_assoc]
      rfl
    | false =>
      show (if hidOk (env.set i (some (.val (e a)))) [i] = true then lcL (.var i) [i] test elt (r.map e) acc (wipeE (env.set i (some (.val (e a)))) [i]) else R.no) = _
      rw [hid_one hlt, hw, if_pos rfl, hr _ (by omega), List.filter_cons_of_neg (by rw [hp]; decide)]
theorem lcL_all (hi : env[i]? = some none) (xs : List α) (hl : xs.length ≤ 16777216) (ht : ∀ a ∈ xs, test (env.set i (some (.val (e a)))) = .ok true (env.set i (some (.val (e a))))) (he : ∀ a ∈ xs, elt (env.set i (some (.val (e a)))) = .ok (f a) (env.set i (some (.val (e a))))) :
    lcL (.var i) [i] test elt (xs.map e) [] env = .ok (xs.map f) env := by
  rw [lcL_eq (p := fun _ => true) (f := f) hi xs [] (by simpa using hl) fun a ha => ⟨ht a ha, fun _ => he a ha⟩, List.filter_eq_self.mpr fun _ _ => rfl]
  try rfl
end
section
variable {G : Nat → Option T} {C : Calls} {env env1 env2 : Env} {own : List Nat} {tg : Tg} {it : It} {cs : Tts} {e : E} {ts : List T} {ws : List W} {is : List Int} {b : Ss}
theorem ev_lc (h1 : evI G C it env = .ok ts env1) (h2 : (hidOk env1 own && tgIn tg own) = true) (h3 : lcL tg own (evTs G C cs) (evE G C e) ts [] (wipeE env1 own) = .ok ws env2) : evE G C (.lc own tg it cs e) env = .ok (.lst ws) (backE env1 env2 own) := by
  rw [qE_lc, h1]
  show (if (hidOk env1 own && tgIn tg own) = true then _ else _) = _
  rw [if_pos h2, h3]
end
section
variable {G : Nat → Option T} {tab : Nat → Option FD} {d i : Nat} {ws : List W} {fd : FD} {w : W} {env : Env}
theorem call_rt (ht : tab i = some fd) (hl : ws.length = fd.np) (h : evSs G (callN G tab d) fd.body (ws.map some ++ List.replicate (fd.ns - fd.np) none) = .ok (.rt w) env) : callN G tab (d + 1) i ws = .ok w (outE env fd.io) := by
  show (match tab i with | none => CR.no | some fd => _) = _
  rw [ht]
  show (if ws.length = fd.np then _ else _) = _
  rw [if_pos hl, h]
theorem call_nx (ht : tab i = some fd) (hl : ws.length = fd.np) (h : evSs G (callN G tab d) fd.body (ws.map some ++ List.replicate (fd.ns - fd.np) none) = .ok .nx env) : callN G tab (d + 1) i ws = .ok (.val .non) (outE env fd.io) := by
  show (match tab i with | none => CR.no | some fd => _) = _
  rw [ht]
  show (if ws.length = fd.np then _ else _) = _
  rw [if_pos hl, h]
end
end Ev
namespace Ev
open PySem
theorem pds_ints : ∀ is : List Int, pds (is.map .int) = some (is.map .int)
  | [] => rfl
  | i :: r => by
    show (match some (PyData.int i), pds (r.map .int) with | some d, some ds => some (d :: ds) | _, _ => none) = _
    rw [pds_ints r]
    rfl
theorem lay_ints : ∀ is : List Int, PyData.canLayAll0 (is.map .int) = true
  | [] => by simp only [List.map_nil, PyData.canLayAll0]
  | i :: r => by simp only [List.map_cons, PyData.canLayAll0, PyData.canLay0, lay_ints r, Bool.and_self]
theorem dep_ints : ∀ is : List Int, PyData.depthAll (is.map .int) = 0
  | [] => by simp only [List.map_nil, PyData.depthAll]
  | i :: r => by simp only [List.map_cons, PyData.depthAll, PyData.depth, dep_ints r, Nat.max_self]
theorem eqv_ints : ∀ is js : List Int, PyData.eqvAll (is.map .int) (js.map .int) = decide (is = js)
  | [], [] => by simp [PyData.eqvAll]
  | [], j :: js => by simp [PyData.eqvAll]
  | i :: is, [] => by simp [PyData.eqvAll]
  | i :: is, j :: js => by
    simp only [List.map_cons, PyData.eqvAll, PyData.eqv, eqv_ints is js]
    by_cases h : i = j <;> by_cases h2 : is = js <;> simp [h, h2]
theorem shaped_ints (is : List Int) : SeqAt.shaped (.list (is.map .int)) = true := by
  simp [SeqAt.shaped, PyData.canLay0, lay_ints, PyData.depth, dep_ints]
theorem shaped_int (i : Int) : SeqAt.shaped (.int i) = true := by simp [SeqAt.shaped, PyData.canLay0, PyData.depth]
theorem eqT_int (i j : Int) : eqT (.int i) (.int j) = some (decide (i = j)) := by
  show (if (SeqAt.shaped (.int i) && SeqAt.shaped (.int j)) = true then some (PyData.eqv (.int i) (.int j)) else none) = _
  rw [shaped_int, shaped_int, Bool.and_self, if_pos rfl]
  have : PyData.eqv (.int i) (.int j) = (i == j) := by simp only [PyData.eqv]
  rw [this]
  rfl
theorem eqT_ints (is js : List Int) : eqT (.lst (is.map .int)) (.lst (js.map .int)) = some (decide (is = js)) := by
  unfold eqT
  have h : ∀ l : List Int, (T.lst (l.map .int)).pd = some (.list (l.map .int)) := fun l => by
    show (pds (l.map .int)).map PyData.list = _
    rw [pds_ints]
    rfl
  rw [h, h]
  show (if (SeqAt.shaped (.list (is.map .int)) && SeqAt.shaped (.list (js.map .int))) = true then some (PyData.eqv (.list (is.map .int)) (.list (js.map .int))) else none) = _
  rw [shaped_ints, shaped_ints, Bool.and_self, if_pos rfl]
  congr 1
  simp only [PyData.eqv]
  exact eqv_ints is js
end Ev
namespace Ev
open PySem
def Ss.from_ : Nat → Ss → Ss
  | 0, s => s
  | n + 1, .cons _ r => Ss.from_ n r
  | _ + 1, .nil => .nil
def Ss.at_ : Nat → Ss → S
  | 0, .cons s _ => s
  | n + 1, .cons _ r => Ss.at_ n r
  | _, .nil => .pass
def S.body : S → Ss
  | .for_ _ _ b => b
  | .whl _ _ b => b
  | _ => .nil
variable {G : Nat → Option T} {C : Calls}
theorem ss_step {s : S} {ss : Ss} {env env1 : Env} {r : R F} (h : evS G C s env = .ok .nx env1) (h2 : evSs G C ss env1 = r) : evSs G C (.cons s ss) env = r := by
  show (evS G C s env).bind _ = r
  rw [h]
  exact h2
end Ev
namespace Ev
open PySem
mutual
theorem eqv_refl : ∀ x : PyData, x.canLay0 = true → PyData.eqv x x = true
  | .none, _ => by simp [PyData.eqv]
  | .bool _, _ => by simp [PyData.eqv]
  | .int _, _ => by simp [PyData.eqv]
  | .str _, _ => by simp [PyData.eqv]
  | .list xs, h => by
    simp only [PyData.canLay0] at h
    simp only [PyData.eqv]
    exact eqvAll_refl xs h
  | .tuple xs, h => by
    simp only [PyData.canLay0] at h
    simp only [PyData.eqv]
    exact eqvAll_refl xs h
  | .dict _, h => by simp only [PyData.canLay0] at h; cases h
theorem eqvAll_refl : ∀ xs : List PyData, PyData.canLayAll0 xs = true → PyData.eqvAll xs xs = true
  | [], _ => by simp only [PyData.eqvAll]
  | x :: xs, h => by
    simp only [PyData.canLayAll0, Bool.and_eq_true] at h
    simp only [PyData.eqvAll, eqv_refl x h.1, eqvAll_refl xs h.2, Bool.and_self]
end
def Pl (t : T) (n : Nat) : Prop := ∃ x, t.pd = some x ∧ x.canLay0 = true ∧ x.depth ≤ n
theorem Pl.mono {t : T} {n m : Nat} (h : Pl t n) (hm : n ≤ m) : Pl t m := by
  obtain ⟨x, a, b, c⟩ := h
  exact ⟨x, a, b, by omega⟩
theorem pls {n : Nat} : ∀ ts : List T, (∀ t ∈ ts, Pl t n) → ∃ xs, pds ts = some xs ∧ PyData.canLayAll0 xs = true ∧ PyData.depthAll xs ≤ n
  | [], _ => ⟨[], rfl, by simp [PyData.canLayAll0], by simp [PyData.depthAll]⟩
  | t :: r, h => by
    obtain ⟨x, a, b, c⟩ := h t List.mem_cons_self
    obtain ⟨xs, a', b', c'⟩ := pls r fun u hu => h u (List.mem_cons_of_mem _ hu)
    refine ⟨x :: xs, ?_, ?_, ?_⟩
    · show (match t.pd, pds r with | some d, some ds => some (d :: ds) | _, _ => none) = _
      rw [a, a']
    · simp only [PyData.canLayAll0, b, b', Bool.and_self]
    · simp only [PyData.depthAll]
      omega
theorem Pl.lst {n : Nat} {ts : List T} (h : ∀ t ∈ ts, Pl t n) : Pl (.lst ts) (n + 1) := by
  obtain ⟨xs, a, b, c⟩ := pls ts h
  refine ⟨.list xs, ?_, by simp only [PyData.canLay0, b], by simp only [PyData.depth]; omega⟩
  show (pds ts).map PyData.list = _
  rw [a]
  rfl
theorem Pl.tup {n : Nat} {ts : List T} (h : ∀ t ∈ ts, Pl t n) : Pl (.tup ts) (n + 1) := by
  obtain ⟨xs, a, b, c⟩ := pls ts h
  refine ⟨.tuple xs, ?_, by simp only [PyData.canLay0, b], by simp only [PyData.depth]; omega⟩
  show (pds ts).map PyData.tuple = _
  rw [a]
  rfl
theorem Pl.int {i : Int} : Pl (.int i) 0 := ⟨.int i, rfl, by simp only [PyData.canLay0], by simp only [PyData.depth]; omega⟩
theorem Pl.bl {b : Bool} : Pl (.bl b) 0 := ⟨.bool b, rfl, by simp only [PyData.canLay0], by simp only [PyData.depth]; omega⟩
theorem Pl.str {x : Str} (h : PyData.strOk x = true) : Pl (.str x) 0 := ⟨.str x, rfl, by simp only [PyData.canLay0]; exact h, by simp only [PyData.depth]; omega⟩
theorem Pl.shaped {t : T} {n : Nat} (h : Pl t n) (hn : n ≤ 64) : ∃ x, t.pd = some x ∧ x.canLay0 = true ∧ SeqAt.shaped x = true := by
  obtain ⟨x, a, b, c⟩ := h
  exact ⟨x, a, b, by unfold SeqAt.shaped; rw [b, Bool.true_and]; exact decide_eq_true (by omega)⟩
theorem Pl.refl {t : T} {n : Nat} (h : Pl t n) (hn : n ≤ 64 := by omega) : eqT t t = some true := by
  obtain ⟨x, a, b, c⟩ := h.shaped hn
  unfold eqT
  rw [a]
  show (if (SeqAt.shaped x && SeqAt.shaped x) = true then some (PyData.eqv x x) else none) = _
  rw [c, Bool.and_self, if_pos rfl, eqv_refl x b]
theorem Pl.two {t u : T} {n m : Nat} (h : Pl t n) (h' : Pl u m) (hn : n ≤ 64 := by omega) (hm : m ≤ 64 := by omega) : ∃ b, eqT t u = some b := by
  obtain ⟨x, a, b, c⟩ := h.shaped hn
  obtain ⟨y, a', b', c'⟩ := h'.shaped hm
  refine ⟨PyData.eqv x y, ?_⟩
  unfold eqT
  rw [a, a']
  show (if (SeqAt.shaped x && SeqAt.shaped y) = true then some (PyData.eqv x y) else none) = _
  rw [c, c', Bool.and_self, if_pos rfl]
theorem Pl.strs {ss : List Str} (h : ∀ x ∈ ss, PyData.strOk x = true) : ∀ t ∈ ss.map T.str, Pl t 0 := fun t ht => by
  obtain ⟨x, hx, rfl⟩ := List.mem_map.mp ht
  exact .str (h x hx)
def okTrue : CR → Bool
  | .ok (.val (.bl true)) [] => true
  | _ => false
end Ev
namespace Ev
open PySem L2
variable {G : Nat → Option T} {C : Calls}
theorem lcL_inv {α : Type} {e : α → T} {p : α → Bool} {f : α → W} {tg : Tg} {own : List Nat} {test : Env → R Bool} {elt : Env → R W} {P : Env → Prop} : ∀ (xs : List α) (acc : List W) (env : Env), acc.length + xs.length ≤ 16777216 → P env →
    (∀ a ∈ xs, ∀ env, P env → ∃ env1, tgE tg (e a) env = some env1 ∧ ∃ env2, test env1 = .ok (p a) env2 ∧ (p a = true → ∃ env3, elt env2 = .ok (f a) env3 ∧ hidOk env3 own = true ∧ P (wipeE env3 own)) ∧ (p a = false → hidOk env2 own = true ∧ P (wipeE env2 own))) →
    ∃ env', P env' ∧ lcL tg own test elt (xs.map e) acc env = .ok (acc ++ (xs.filter p).map f) env'
  | [], acc, env, _, hp, _ => ⟨env, hp, by simp [lcL]⟩
  | a :: r, acc, env, hl, hp, h => by
    obtain ⟨env1, e1, env2, e2, h3, h4⟩ := h a List.mem_cons_self env hp
    rw [List.length_cons] at hl
    cases q : p a with
    | true =>
      obtain ⟨env3, e3, hid, hp3⟩ := h3 q
      obtain ⟨env', hp', e4⟩ := lcL_inv r (acc ++ [f a]) (wipeE env3 own) (by rw [List.length_append, List.length_singleton]; omega) hp3 fun b hb => h b (List.mem_cons_of_mem _ hb)
      refine ⟨env', hp', ?_⟩
      show (match tgE tg (e a) env with
        | none => R.no
        | some env1 => _) = _
      rw [e1]
      show ((test env1).bind _) = _
      rw [e2, q]
      show ((elt env2).bind _) = _
      rw [e3]
      show (if (decide (acc.length < 16777216) && hidOk env3 own) = true then lcL tg own test elt (r.map e) (acc ++ [f a]) (wipeE env3 own) else R.no) = _
      rw [hid, if_pos (by rw [Bool.and_true]; exact decide_eq_true (by omega)), e4, List.filter_cons_of_pos q, List.map_cons, List.append_assoc]
      rfl
    | false =>
      obtain ⟨hid, hp3⟩ := h4 q
      obtain ⟨env', hp', e4⟩ := lcL_inv r acc (wipeE env2 own) (by omega) hp3 fun b hb => h b (List.mem_cons_of_mem _ hb)
      refine ⟨env', hp', ?_⟩
      show (match tgE tg (e a) env with
        | none => R.no
        | some env1 => _) = _
      rw [e1]
      show ((test env1).bind _) = _
      rw [e2, q]
      show (if hidOk env2 own = true then lcL tg own test elt (r.map e) acc (wipeE env2 own) else R.no) = _
      rw [if_pos hid, e4, List.filter_cons_of_neg (by rw [q]; decide)]
def prT (p : Str × Str) : T := .tup [.str p.1, .str p.2]
def prD (p : Str × Str) : PyData := .tuple [.str p.1, .str p.2]
def prP (p : Str × Str) : List Pt := [.s p.1, .s p.2]
end Ev
namespace Ev
open PySem L2
inductive Dum {A : Type} (a : A) : Type where
  | mk
def bnd {α β : Type} (k : α → Env → R β) (_ : Dum k) (r : R α) : R β := r.bind k
def finC (io : List Nat) : R F → CR
  | .ok .nx env => .ok (.val .non) (outE env io)
  | .ok (.rt w) env => .ok w (outE env io)
  | .ok _ _ => .no
  | .exc c t env => .exc c t (outE env io)
  | .no => .no
end Ev
namespace Ev
open PySem
theorem atI_nat {α : Type} (xs : List α) (b : Nat) : L2.atI xs (b : Int) = xs[b]? := by
  unfold L2.atI L2.ixN
  rw [if_pos (Int.natCast_nonneg b)]
  by_cases h : b < xs.length
  · rw [if_pos (by omega)]
    rfl
  · rw [if_neg (by omega)]
    exact (List.getElem?_eq_none (by omega)).symm
theorem ix_tup (xs : List T) (b : Nat) : ixT (.tup xs) (.int b) = xs[b]? := atI_nat xs b
theorem ix_lst (xs : List T) (b : Nat) : ixT (.lst xs) (.int b) = xs[b]? := atI_nat xs b
theorem at_map {α : Type} {t : α → T} {xs : List α} {b : Nat} {a : α} (h : xs[b]? = some a) : L2.atI (xs.map t) (b : Int) = some (t a) := by
  rw [atI_nat, List.getElem?_map, h]
  rfl
end Ev
namespace Ev
open PySem
variable [WW]
def irTake : Ss := (.cons (.ife (.v (.cmp .Gt (.rdx 0 (.int 0)) (.int 0))) (.cons (.asg 2 (.op .Mod (.bi .int (.cons (.rdx 0 (.int 0)) .nil)) (.rd 1))) (.cons (.setx 0 (.int 0) (.op .FloorDiv (.rdx 0 (.int 0)) (.rd 1))) (.cons (.retv 2) .nil))) .nil) (.cons (.setx 0 (.int 1) (.op .Mod (.bi .int (.cons (.op .Add (.op .Mult (.rdx 0 (.int 1)) (.int 48271)) (.int 11)) .nil)) (.int 2147483647))) (.cons (.ret (.op .Mod (.op .FloorDiv (.op .Mod (.bi .int (.cons (.op .Mult (.rdx 0 (.int 1)) (.rdx 0 (.int 1))) .nil)) (.int 2147483629)) (.int 64)) (.rd 1))) .nil)))
def irPool : Ss := (.cons (.asg 2 (.ife (.v (.cmp .Lt (.rd 1) (.bi .len (.cons (.rd 0) .nil)))) (.ix (.rd 0) (.rd 1)) (.int 0))) (.cons (.asg 3 (.op .Mult (.bi .int (.cons (.op .Add (.op .Add (.op .Mod (.bi .int (.cons (.rd 2) .nil)) (.int 2147483629)) (.op .Mult (.op .Mult (.int 7919) (.rd 1)) (.rd 1))) (.int 13)) .nil)) (.int 48271))) (.cons (.ret (.lst (.cons (.ife (.v (.cmp .GtE (.rd 2) (.op .Pow (.int 10) (.int 18)))) (.rd 2) (.int 0)) (.cons (.op .Add (.op .Mod (.bi .int (.cons (.rd 3) .nil)) (.int 2147483647)) (.int 1)) .nil)))) .nil)))
theorem take1 (G : Nat → Option T) (C : Calls) (p0 p1 m : Int) (hp : 0 < p0) (hm : 0 < m) (hm' : m < 1073741824) :
    evSs G C irTake [some (.lst [.val (.int p0), .val (.int p1)]), some (.val (.int m)), none] = .ok (.rt (.val (.int (p0 % m)))) [some (.lst [.val (.int (p0 / m)), .val (.int p1)]), some (.val (.int m)), none] := by
  simp [irTake, evSs, evS, evE, evEs, evT, R.bind, R.of, W.fz, fzs, L2.atI, L2.ixN, cmpT, cmpI2, cmpInt, T.tru, opT, opInt, biT, intT, hp, hm, hm']
theorem take2 (G : Nat → Option T) (C : Calls) (p0 p1 q1 m : Int) (hp : p0 ≤ 0) (h1 : 0 ≤ p1) (h1' : p1 < 2147483648) (hm : 0 < m) (hm' : m < 1073741824) (eq : q1 = (p1 * 48271 + 11) % 2147483647) :
    evSs G C irTake [some (.lst [.val (.int p0), .val (.int p1)]), some (.val (.int m)), none] = .ok (.rt (.val (.int (q1 * q1 % 2147483629 / 64 % m)))) [some (.lst [.val (.int p0), .val (.int q1)]), some (.val (.int m)), none] := by
  have hp' : ¬ 0 < p0 := by omega
  have m1 : mulOk p1 48271 = true := by simp only [mulOk, Bool.or_eq_true, Bool.and_eq_true, decide_eq_true_eq]; omega
  have m2 : mulOk q1 q1 = true := by simp only [mulOk, Bool.or_eq_true, Bool.and_eq_true, decide_eq_true_eq]; omega
  subst eq
  simp [irTake, evSs, evS, evE, evEs, evT, R.bind, R.of, W.fz, fzs, L2.atI, L2.ixN, cmpT, cmpI2, cmpInt, T.tru, opT, opInt, biT, intT, hp', hm, hm', m1, m2]
def PoolW (p0 p1 : Int) : W := .lst [.val (.int p0), .val (.int p1)]
structure PoolOk (p1 : Int) : Prop where
  lo : 0 ≤ p1
  hi : p1 < 2147483648
theorem take_ev (G : Nat → Option T) (C : Calls) (p0 p1 m : Int) (h : PoolOk p1) (hm : 0 < m) (hm' : m < 1073741824) :
    ∃ r q0 q1, 0 ≤ r ∧ r < m ∧ PoolOk q1 ∧ evSs G C irTake [some (PoolW p0 p1), some (.val (.int m)), none] = .ok (.rt (.val (.int r))) [some (PoolW q0 q1), some (.val (.int m)), none] := by
  by_cases hp : 0 < p0
  · exact ⟨p0 % m, p0 / m, p1, Int.emod_nonneg _ (by omega), Int.emod_lt_of_pos _ hm, h, take1 G C p0 p1 m hp hm hm'⟩
  · exact ⟨_, p0, _, Int.emod_nonneg _ (by omega), Int.emod_lt_of_pos _ hm, ⟨by omega, by omega⟩, take2 G C p0 p1 _ m (by omega) h.lo h.hi hm hm' rfl⟩
theorem pool_ev (G : Nat → Option T) (C : Calls) (ns : List Int) (k : Int) (hk : 0 ≤ k) (hk' : k ≤ 1000) :
    ∃ p0 p1 env, PoolOk p1 ∧ evSs G C irPool [some (.val (.scr ns)), some (.val (.int k)), none, none] = .ok (.rt (PoolW p0 p1)) env := by
  have main : ∀ c : Int, (match (if k < (ns.length : Int) then L2.atI ns k else some 0) with | some c' => c' = c | none => False) → ∃ p0 p1 env, PoolOk p1 ∧ evSs G C irPool [some (.val (.scr ns)), some (.val (.int k)), none, none] = .ok (.rt (PoolW p0 p1)) env := by
    intro c hc
    have m1 : mulOk 7919 k = true := by simp only [mulOk, Bool.or_eq_true, Bool.and_eq_true, decide_eq_true_eq]; omega
    have m2 : mulOk (7919 * k) k = true := by simp only [mulOk, Bool.or_eq_true, Bool.and_eq_true, decide_eq_true_eq]; omega
    have m3 : mulOk (c % 2147483629 + 7919 * k * k + 13) 48271 = true := by simp only [mulOk, Bool.or_eq_true, Bool.and_eq_true, decide_eq_true_eq]; omega
    have m4 : mulOk (7919 * k * k + 13) 48271 = true := by simp only [mulOk, Bool.or_eq_true, Bool.and_eq_true, decide_eq_true_eq]; omega
    by_cases hl : k < (ns.length : Int)
    · rw [if_pos hl] at hc
      cases ea : L2.atI ns k with
      | none => rw [ea] at hc; exact hc.elim
      | some c' =>
        rw [ea] at hc
        have hc : c' = c := hc
        subst hc
        by_cases big : 1000000000000000000 ≤ c'
        · refine ⟨c', ((c' % 2147483629 + 7919 * k * k + 13) * 48271) % 2147483647 + 1, [some (.val (.scr ns)), some (.val (.int k)), some (.val (.int (c'))), some (.val (.int (((c' % 2147483629 + 7919 * k * k + 13) * 48271))))], ⟨by omega, by omega⟩, ?_⟩
          simp [irPool, evSs, evS, evE, evEs, evT, R.bind, R.of, W.fz, fzs, ixT, lenT, cmpT, cmpI2, cmpInt, T.tru, opT, opInt, biT, intT, m1, m2, m3, PoolW, hl, ea, big]
        · refine ⟨0, ((c' % 2147483629 + 7919 * k * k + 13) * 48271) % 2147483647 + 1, [some (.val (.scr ns)), some (.val (.int k)), some (.val (.int (c'))), some (.val (.int (((c' % 2147483629 + 7919 * k * k + 13) * 48271))))], ⟨by omega, by omega⟩, ?_⟩
          simp [irPool, evSs, evS, evE, evEs, evT, R.bind, R.of, W.fz, fzs, ixT, lenT, cmpT, cmpI2, cmpInt, T.tru, opT, opInt, biT, intT, m1, m2, m3, PoolW, hl, ea, big]
    · rw [if_neg hl] at hc
      have hc : (0 : Int) = c := hc
      subst hc
      refine ⟨0, (((0 : Int) % 2147483629 + 7919 * k * k + 13) * 48271) % 2147483647 + 1, [some (.val (.scr ns)), some (.val (.int k)), some (.val (.int (0))), some (.val (.int ((((0 : Int) % 2147483629 + 7919 * k * k + 13) * 48271))))], ⟨by omega, by omega⟩, ?_⟩
      simp [irPool, evSs, evS, evE, evEs, evT, R.bind, R.of, W.fz, fzs, ixT, lenT, cmpT, cmpI2, cmpInt, T.tru, opT, opInt, biT, intT, m1, m2, m3, m4, PoolW, hl]
  by_cases hl : k < (ns.length : Int)
  · have : ∃ c, L2.atI ns k = some c := by
      unfold L2.atI L2.ixN
      rw [if_pos hk, if_pos hl]
      have : k.toNat < ns.length := by omega
      exact ⟨ns[k.toNat], List.getElem?_eq_getElem this⟩
    obtain ⟨c, ec⟩ := this
    exact main c (by rw [if_pos hl, ec])
  · exact main 0 (by rw [if_neg hl])
end Ev
local macro_rules
  | `(tactic| simp_arith! [$ts,*]) => `(tactic| simp [Ev.qE_dcn, Ev.qE_ind, Ev.qE_nind, Ev.qI_dnk, Ev.qE_int, Ev.qE_bl, Ev.qE_non, Ev.qE_str, Ev.qE_cst, Ev.qE_rd, Ev.qE_rdx, Ev.qE_op, Ev.qE_neg, Ev.qE_cmp, Ev.qE_chn, Ev.qE_one, Ev.qE_and, Ev.qE_or, Ev.qE_not, Ev.qE_ife, Ev.qE_tup, Ev.qE_lst, Ev.qE_ix, Ev.qE_sl, Ev.qE_bi, Ev.qE_isi, Ev.qE_isis, Ev.qE_call, Ev.qE_callk, Ev.qE_lenS, Ev.qE_srtS, Ev.qE_lrng3, Ev.qE_rev, Ev.qE_alt, Ev.qE_fld, Ev.qE_fldv, Ev.qE_meth, Ev.qE_methv, Ev.qE_prop, Ev.qE_new, Ev.qE_newst, Ev.qE_newdd, Ev.qE_deq, Ev.qE_callw, Ev.qE_own, Ev.qE_ownE, Ev.qE_ownB, Ev.qE_ownN, Ev.qE_ownI, Ev.qE_isc, Ev.qE_isin, Ev.qE_isid, Ev.qE_dct, Ev.qE_items, Ev.qE_kin, Ev.qE_kget, Ev.qE_klist, Ev.qE_popv, Ev.qE_lenv, Ev.qE_cmpv, Ev.qE_lrng, Ev.qSe_of, Ev.qEs_nil, Ev.qEs_cons, Ev.qO_no, Ev.qO_so, Ev.qT_v, Ev.qT_one, Ev.qT_and, Ev.qT_or, Ev.qT_not, Ev.qTs_nil, Ev.qTs_cons, Ev.qI_e, Ev.qI_rng, Ev.qI_keys, Ev.qI_keysv, Ev.qI_kk, Ev.qI_enum, Ev.qI_zip, Ev.qA_nil, Ev.qA_cons, Ev.qA_io, Ev.qS_asg, Ev.qS_asgT, Ev.qS_par, Ev.qS_setx, Ev.qS_app, Ev.qS_expr, Ev.qS_ret, Ev.qS_retv, Ev.qS_retn, Ev.qS_ife, Ev.qS_setf, Ev.qS_appx, Ev.qS_clrt, Ev.qS_pass, Ev.qS_never, Ev.qSs_nil, Ev.qSs_cons, Ev.R.bind, Ev.R.of, Ev.W.fz, Ev.fzs, Ev.backO, Ev.callR, Ev.newR, Ev.cmpT, Ev.cmpI2, Ev.cmpInt, Ev.T.tru, Ev.opT, Ev.opInt, Ev.biT, Ev.lenT, Ev.listT, Ev.tupleT, Ev.intT, Ev.allT, Ev.hidOk, Ev.tgIn, Ev.wipeE, Ev.backE, Ev.isinT, Ev.isidT, Ev.isiT, Ev.tyT, Ev.Ty.sub, Ev.ixT, Ev.qE_tadd, Ev.qE_tsl, Ev.qE_sadd, Ev.qE_fst, Ev.qE_join, Ev.qE_str1, Ev.qE_srtR, Ev.qE_srtD, Ev.qE_ownA, Ev.qE_ownL, Ev.qE_ownR, Ev.qE_newN, Ev.qE_frz, Ev.qE_ssl, Ev.qE_tmul, Ev.qI_enum, Ev.qI_zip, Ev.qS_ext, Ev.qS_rais, Ev.qS_appt, $ts,*])
namespace Zk71
open PySem Ev
abbrev GG := cstG tx.cs
theorem min2 (x y : Int) : minT [.int x, .int y] = some (.val (.int (if y < x then y else x))) := rfl
theorem g3 : GG 3 = some (.int 10000) := rfl
theorem g4 : GG 4 = some (.int 300) := rfl
theorem c0 (d : Nat) (i : Int) : Cl (d + 1) 0 [.val (.int i)] = .ok (.val (.bl true)) [] := rfl
theorem c1 (d : Nat) (t l m : Int) : Cl (d + 2) 1 [.val (.int t), .val (.int l), .val (.int m)] = .ok (.val (.bl (decide (l ≤ t) && decide (t ≤ m)))) [] := by
  refine call_rt (fd := Sh.fd1) (env := [some (.val (.int t)), some (.val (.int l)), some (.val (.int m))]) rfl rfl ?_
  have h := c0 d t
  by_cases a : l ≤ t <;> simp_arith! [Sh.fd1, Sh.ir1, h, a]
theorem c43 (d : Nat) (t l m : Int) (h1 : l ≤ t) (h2 : t ≤ m) : Cl (d + 3) 43 [.val (.int t), .val (.int l), .val (.int m)] = .ok (.val .non) [] := by
  refine call_nx (fd := fd43) (env := [some (.val (.int t)), some (.val (.int l)), some (.val (.int m))]) rfl rfl ?_
  have h := c1 d t l m
  simp_arith! [fd43, ir43, h, h1, h2]
theorem c44 (d : Nat) (b s m : Int) (h1 : 1 ≤ b) (h2 : b ≤ 10000) (h3 : 1 ≤ s) (h4 : s ≤ 10000) (h5 : 1 ≤ m) (h6 : m ≤ b) : Cl (d + 4) 44 [.val (.int b), .val (.int s), .val (.int m)] = .ok (.val .non) [] := by
  refine call_nx (fd := fd44) (env := [some (.val (.int b)), some (.val (.int s)), some (.val (.int m))]) rfl rfl ?_
  have a1 := c43 d b 1 10000 h1 h2
  have a2 := c43 d s 1 10000 h3 h4
  have a3 := c43 d m 1 b h5 h6
  simp_arith! [fd44, ir44, g3, a1, a2, a3]
theorem c46 (d : Nat) (n s : Int) (hs : 0 < s) (hs' : s ≤ 10000) : Cl (d + 1) 46 [.val (.int n), .val (.int s)] = .ok (.val (.int ((n + s - 1) / s))) [] := by
  refine call_rt (fd := fd46) (env := [some (.val (.int n)), some (.val (.int s))]) rfl rfl ?_
  have h6 : s < 1073741824 := by omega
  simp_arith! [fd46, ir46, hs, h6]
structure Dr (b m : Int) : Prop where
  b1 : 1 ≤ b
  b2 : b ≤ 300
  m1 : 1 ≤ m
  m2 : m ≤ b
def mcI (b s m : Int) : Int := if b < m * s then b else m * s
def mtI (b s m : Int) : Int := if (b + s - 1) / s < m then (b + s - 1) / s else m
section
variable {b m s : Int} (h : Dr b m) (s1 : 1 ≤ s) (s2 : s ≤ b)
include h s1 s2
theorem c44' (d : Nat) : Cl (d + 4) 44 [.val (.int b), .val (.int s), .val (.int m)] = .ok (.val .non) [] := c44 d b s m h.b1 (by have := h.b2; omega) s1 (by have := h.b2; omega) h.m1 h.m2
theorem mul_ok : mulOk m s = true := by
  have := h.b2
  simp only [mulOk, Bool.or_eq_true, Bool.and_eq_true, decide_eq_true_eq]; omega
theorem c34 (d : Nat) : Cl (d + 5) 34 [.val (.int b), .val (.int s), .val (.int m)] = .ok (.val (.int (mcI b s m))) [] := by
  refine call_rt (fd := fd34) (env := [some (.val (.int b)), some (.val (.int s)), some (.val (.int m))]) rfl rfl ?_
  have a1 := c44' h s1 s2 d
  have m1 := mul_ok h s1 s2
  simp_arith! [fd34, ir34, a1, m1, mcI, min2]
theorem c39 (d : Nat) : Cl (d + 5) 39 [.val (.int b), .val (.int s), .val (.int m)] = .ok (.val (.int (mtI b s m))) [] := by
  refine call_rt (fd := fd39) (env := [some (.val (.int b)), some (.val (.int s)), some (.val (.int m))]) rfl rfl ?_
  have a1 := c44' h s1 s2 d
  have a2 := c46 (d + 3) b s (by omega) (by have := h.b2; omega)
  simp_arith! [fd39, ir39, a1, a2, mtI, min2]
theorem mc_le : 0 ≤ mcI b s m ∧ mcI b s m ≤ 300 := by
  have := h.b2; have := h.m1; have := h.b1
  have p : 0 ≤ m * s := Int.mul_nonneg (by omega) (by omega)
  unfold mcI
  split <;> omega
theorem mt_le : 0 ≤ mtI b s m ∧ mtI b s m ≤ 300 := by
  have := h.b2; have := h.m1; have := h.m2
  have p : 0 ≤ (b + s - 1) / s := Int.ediv_nonneg (by omega) (by omega)
  unfold mtI
  split <;> omega
end
def prI (b m c g s : Int) : Int := c * mcI b s m + g * mtI b s m
theorem mul30 {c x : Int} (h1 : 0 ≤ c) (h2 : c ≤ 30) (h3 : 0 ≤ x) (h4 : x ≤ 300) : mulOk c x = true := by
  simp only [mulOk, Bool.or_eq_true, Bool.and_eq_true, decide_eq_true_eq]; omega
section
variable {b m s c g : Int} (h : Dr b m) (s1 : 1 ≤ s) (s2 : s ≤ b) (c1' : 0 ≤ c) (c2 : c ≤ 30) (g1 : 0 ≤ g) (g2 : g ≤ 30)
include h s1 s2 c1' c2 g1 g2
theorem c36 (d : Nat) : Cl (d + 6) 36 [.val (.int b), .val (.int s), .val (.int m), .val (.int c), .val (.int g)] = .ok (.val (.int (prI b m c g s))) [] := by
  refine call_rt (fd := fd36) (env := [some (.val (.int b)), some (.val (.int s)), some (.val (.int m)), some (.val (.int c)), some (.val (.int g))]) rfl rfl ?_
  have a1 := c44' h s1 s2 (d + 1)
  have a2 := c43 (d + 2) c 0 10000 c1' (by omega)
  have a3 := c43 (d + 2) g 0 10000 g1 (by omega)
  have a4 := c34 h s1 s2 d
  have a5 := c39 h s1 s2 d
  have b1 := mc_le h s1 s2
  have b2 := mt_le h s1 s2
  have m1 := mul30 c1' c2 b1.1 b1.2
  have m2 := mul30 g1 g2 b2.1 b2.2
  simp_arith! [fd36, ir36, g3, a1, a2, a3, a4, a5, m1, m2, prI]
theorem c32 (d : Nat) : Cl (d + 1) 32 [.val (.int b), .val (.int s), .val (.int m), .val (.int c), .val (.int g)] = .ok (.val (.int (prI b m c g s))) [] := by
  refine call_rt (fd := fd32) (env := [some (.val (.int b)), some (.val (.int s)), some (.val (.int m)), some (.val (.int c)), some (.val (.int g)), some (.val (.int ((b + s - 1) / s)))]) rfl rfl ?_
  have b1 := mc_le h s1 s2
  have b2 := mt_le h s1 s2
  have m1 := mul30 c1' c2 b1.1 b1.2
  have m2 := mul30 g1 g2 b2.1 b2.2
  have m3 := mul_ok h s1 s2
  have h6 : s < 1073741824 := by have := h.b2; omega
  have h5 : 0 < s := by omega
  unfold mcI at m1
  unfold mtI at m2
  simp_arith! [fd32, ir32, h5, h6, m1, m2, m3, prI, mcI, mtI, min2]
end
end Zk71
namespace Zk71
open PySem Ev
def prL (b m c g : Int) : List Int := (rngI 1 b.toNat).map (prI b m c g)
def minOf : List Int → Int
  | [] => 0
  | x :: xs => minI x xs
def bestL (b m c g : Int) : List Int := ((prL b m c g).zipIdx.filter fun q => decide (q.1 = minOf (prL b m c g))).map fun q => (q.2 : Int) + 1
theorem minOf_eq {P : List Int} (h : 0 < P.length) : minT [.lst (P.map .int)] = some (.val (.int (minOf P))) := by
  cases P with
  | nil => cases h
  | cons x xs =>
    show (T.ints ((x :: xs).map .int)).bind _ = _
    rw [ints_map]
    rfl
theorem prL_len (b m c g : Int) : (prL b m c g).length = b.toNat := by
  unfold prL
  rw [List.length_map, rngI_len]
theorem rng_mem {a x : Int} {n : Nat} (h : x ∈ rngI a n) : a ≤ x ∧ x < a + n := by
  obtain ⟨i, hi, e⟩ := List.mem_iff_getElem.mp h
  rw [rngI_len] at hi
  have g := rngI_get n a i hi
  have e2 : (rngI a n)[i]? = some x := by rw [List.getElem?_eq_getElem (by rw [rngI_len]; exact hi), e]
  rw [g] at e2
  cases e2
  omega
theorem enum_map (P : List Int) : ((P.map T.int).zipIdx).map (fun p => T.tup [.int p.2, p.1]) = P.zipIdx.map fun q => T.tup [.int q.2, .int q.1] := by
  rw [List.zipIdx_map, List.map_map]
  rfl
theorem nums_map (P : List Int) : P.zipIdx.map (fun q => T.int q.2) = (rngI 0 P.length).map .int := by
  apply List.ext_getElem?
  intro i
  rw [List.getElem?_map, List.getElem?_map, List.getElem?_zipIdx]
  by_cases h : i < P.length
  · rw [rngI_get _ _ _ h, List.getElem?_eq_getElem h]
    simp
  · rw [List.getElem?_eq_none (by omega), List.getElem?_eq_none (by rw [rngI_len]; omega)]
    rfl
theorem zip_at {P : List Int} {q : Int × Nat} (h : q ∈ P.zipIdx) : P[q.2]? = some q.1 := by
  have := List.mem_zipIdx_iff_getElem?.mp h
  exact this
section
variable {b m c g : Int} (h : Dr b m) (c1' : 0 ≤ c) (c2 : c ≤ 30) (g1 : 0 ≤ g) (g2 : g ≤ 30)
include h c1' c2 g1 g2
theorem rngU : rngT (.int 1) (some (b + 1)) = some (rngI 1 b.toNat) := by
  have := h.b1; have := h.b2
  have o1 : okR 1 = true := rfl
  have o2 : okR (b + 1) = true := by simp only [okR, Bool.and_eq_true, decide_eq_true_eq]; omega
  show (if (okR 1 && okR (b + 1)) = true then some (rngI 1 (b + 1 - 1).toNat) else none) = _
  rw [o1, o2]
  show some (rngI 1 (b + 1 - 1).toNat) = _
  rw [Int.add_sub_cancel]
theorem best_ev (d : Nat) : Cl (d + 7) 31 [.val (.int b), .val (.int m), .val (.int c), .val (.int g)] = .ok (.lst ((bestL b m c g).map fun i => .val (.int i))) [] := by
  have hb1 := h.b1; have hb2 := h.b2
  have a1 := c43 (d + 3) b 1 300 hb1 hb2
  have a2 := c43 (d + 3) m 1 b h.m1 h.m2
  have a3 := c43 (d + 3) c 0 10000 c1' (by omega)
  have a4 := c43 (d + 3) g 0 10000 g1 (by omega)
  have l1 : lcL (.var 6) [6] (evTs GG (Cl (d + 6)) .nil) (evE GG (Cl (d + 6)) (.callw 36 (.cons (.rd 0) (.cons (.rd 6) (.cons (.rd 1) .nil))) (.cons (.rd 2) (.cons (.rd 3) .nil)) [.p 0, .p 1, .p 2, .k 0, .k 1])) ((rngI 1 b.toNat).map .int) []
      [some (.val (.int b)), some (.val (.int m)), some (.val (.int c)), some (.val (.int g)), none, none, none, none] = .ok ((rngI 1 b.toNat).map fun s => .val (.int (prI b m c g s))) [some (.val (.int b)), some (.val (.int m)), some (.val (.int c)), some (.val (.int g)), none, none, none, none] := by
    refine lcL_all rfl (rngI 1 b.toNat) (by rw [rngI_len]; omega) (fun a _ => rfl) fun a ha => ?_
    obtain ⟨r1, r2⟩ := rng_mem ha
    have k := c36 h r1 (by omega) c1' c2 g1 g2 d
    simp_arith! [qE_callw, arr, callR, k]
  have i1 : evI GG (Cl (d + 6)) (.rng (.int 1) (.so (.op .Add (.rd 0) (.int 1)))) [some (.val (.int b)), some (.val (.int m)), some (.val (.int c)), some (.val (.int g)), none, none, none, none] = .ok ((rngI 1 b.toNat).map .int) [some (.val (.int b)), some (.val (.int m)), some (.val (.int c)), some (.val (.int g)), none, none, none, none] := by
    have r := rngU h c1' c2 g1 g2
    simp_arith! [r]
  have v1 := ev_lc i1 rfl l1
  have e1 : ((rngI 1 b.toNat).map fun s => W.val (.int (prI b m c g s))) = (prL b m c g).map fun i => .val (.int i) := by
    unfold prL
    rw [List.map_map]
    rfl
  have pl := prL_len b m c g
  rw [e1] at v1
  have pn : 0 < (prL b m c g).length := by omega
  have bl : bestL b m c g = ((prL b m c g).zipIdx.filter fun q => decide (q.1 = minOf (prL b m c g))).map fun q => (q.2 : Int) + 1 := rfl
  generalize bestL b m c g = L at bl
  generalize prL b m c g = P at v1 pl pn bl
  have hl : P.length ≤ 300 := by omega
  have l2 : lcL (.var 7) [7] (evTs GG (Cl (d + 6)) .nil) (evE GG (Cl (d + 6)) (.bi .int (.cons (.rd 7) .nil))) (P.map .int) [] [some (.val (.int b)), some (.val (.int m)), some (.val (.int c)), some (.val (.int g)), some (.val (.lst (P.map .int))), none, none, none] =
      .ok (P.map fun i => .val (.int i)) [some (.val (.int b)), some (.val (.int m)), some (.val (.int c)), some (.val (.int g)), some (.val (.lst (P.map .int))), none, none, none] := by
    refine lcL_all rfl P (by omega) (fun a _ => rfl) fun a _ => ?_
    simp_arith! []
  have i2 : evI GG (Cl (d + 6)) (.e (.rd 4)) [some (.val (.int b)), some (.val (.int m)), some (.val (.int c)), some (.val (.int g)), some (.lst (P.map fun i => .val (.int i))), none, none, none] = .ok (P.map .int) [some (.val (.int b)), some (.val (.int m)), some (.val (.int c)), some (.val (.int g)), some (.val (.lst (P.map .int))), none, none, none] := by
    simp_arith! [fzs_iv]
  have v2 := ev_lc i2 rfl l2
  have mn := minOf_eq pn
  obtain ⟨env', he, l3⟩ := lcL_inv (e := fun q : Int × Nat => T.tup [.int q.2, .int q.1]) (p := fun q => decide (q.1 = minOf P)) (f := fun q => W.val (.int ((q.2 : Int) + 1))) (tg := .tup [6, 7]) (own := [6, 7])
    (test := evTs GG (Cl (d + 6)) (.cons (.v (.cmp .Eq (.rd 7) (.rd 5))) .nil)) (elt := evE GG (Cl (d + 6)) (.op .Add (.rd 6) (.int 1)))
    (P := fun env => env = [some (.val (.int b)), some (.val (.int m)), some (.val (.int c)), some (.val (.int g)), some (.val (.lst (P.map .int))), some (.val (.int (minOf P))), none, none]) P.zipIdx [] _ (by rw [List.length_zipIdx]; simp only [List.length_nil]; omega) rfl fun q hq env he => by
      subst he
      have bd : (q.2 : Int) < 300 := by
        have := zip_at hq
        have := (List.getElem?_eq_some_iff.mp this).1
        omega
      refine ⟨_, rfl, [some (.val (.int b)), some (.val (.int m)), some (.val (.int c)), some (.val (.int g)), some (.val (.lst (P.map .int))), some (.val (.int (minOf P))), some (.val (.int q.2)), some (.val (.int q.1))], ?_, fun _ => ⟨[some (.val (.int b)), some (.val (.int m)), some (.val (.int c)), some (.val (.int g)), some (.val (.lst (P.map .int))), some (.val (.int (minOf P))), some (.val (.int q.2)), some (.val (.int q.1))], ?_, rfl, rfl⟩, fun _ => ⟨rfl, rfl⟩⟩
      · skip
        by_cases z : q.1 = minOf P <;> simp_arith! [eqT_int, z]
      · simp_arith! []
  subst he
  rw [List.nil_append] at l3
  have i3 : evI GG (Cl (d + 6)) (.enum (.rd 4)) [some (.val (.int b)), some (.val (.int m)), some (.val (.int c)), some (.val (.int g)), some (.val (.lst (P.map .int))), some (.val (.int (minOf P))), none, none] = .ok (P.zipIdx.map fun q => T.tup [.int q.2, .int q.1]) [some (.val (.int b)), some (.val (.int m)), some (.val (.int c)), some (.val (.int g)), some (.val (.lst (P.map .int))), some (.val (.int (minOf P))), none, none] := by
    rw [← enum_map]
    simp_arith! []
  have v3 := ev_lc i3 rfl l3
  have e3 : (P.zipIdx.filter fun q => decide (q.1 = minOf P)).map (fun q => W.val (.int ((q.2 : Int) + 1))) = L.map fun i => .val (.int i) := by
    rw [bl, List.map_map]
    rfl
  rw [e3] at v3
  refine call_rt (fd := fd31) (env := [some (.val (.int b)), some (.val (.int m)), some (.val (.int c)), some (.val (.int g)), some (.val (.lst (P.map .int))), some (.val (.int (minOf P))), none, none]) rfl rfl ?_
  have z1 : (fzs (P.map fun i => W.val (.int i))) = P.map .int := fzs_iv P
  show evSs GG (Cl (d + 6)) ir31 [some (.val (.int b)), some (.val (.int m)), some (.val (.int c)), some (.val (.int g)), none, none, none, none] = _
  refine ss_step (env1 := [some (.val (.int b)), some (.val (.int m)), some (.val (.int c)), some (.val (.int g)), none, none, none, none]) (by simp_arith! [g4, a1]) ?_
  refine ss_step (env1 := [some (.val (.int b)), some (.val (.int m)), some (.val (.int c)), some (.val (.int g)), none, none, none, none]) (by simp_arith! [a2]) ?_
  refine ss_step (env1 := [some (.val (.int b)), some (.val (.int m)), some (.val (.int c)), some (.val (.int g)), none, none, none, none]) (by simp_arith! [g3, a3]) ?_
  refine ss_step (env1 := [some (.val (.int b)), some (.val (.int m)), some (.val (.int c)), some (.val (.int g)), none, none, none, none]) (by simp_arith! [g3, a4]) ?_
  refine ss_step (env1 := [some (.val (.int b)), some (.val (.int m)), some (.val (.int c)), some (.val (.int g)), some (.lst (P.map fun i => .val (.int i))), none, none, none]) (by
    show ((evE GG (Cl (d + 6)) _ _).bind _) = _
    rw [v1]
    rfl) ?_
  refine ss_step (env1 := [some (.val (.int b)), some (.val (.int m)), some (.val (.int c)), some (.val (.int g)), some (.val (.lst (P.map .int))), some (.val (.int (minOf P))), none, none]) (by
    simp_arith! [v2, z1, mn, backE]) ?_
  show ((evS GG (Cl (d + 6)) (.ret _) _).bind _) = _
  show (((evE GG (Cl (d + 6)) _ _).bind _).bind _) = _
  rw [v3]
  rfl
theorem due_ev (d : Nat) (ns : List Int) (k : Int) (x2 : Option W) (x5 : Option W) : ∃ w : W, evS GG (Cl d) (.asg 5 (.lc [10] (.var 10) (.rng (.rd 3) .no) (.cons (.v (.cmp .Eq (.ix (.rd 4) (.rd 10)) (.bi .min (.cons (.rd 4) .nil)))) .nil) (.op .Add (.rd 10) (.int 1))))
    [some (.val (.scr ns)), some (.val (.int k)), x2, some (.val (.int b)), some (.lst ((prL b m c g).map fun i => .val (.int i))), x5, some (.val (.int m)), some (.val (.int c)), some (.val (.int g)), none, none] =
    .ok .nx [some (.val (.scr ns)), some (.val (.int k)), x2, some (.val (.int b)), some w, some (.lst ((bestL b m c g).map fun i => .val (.int i))), some (.val (.int m)), some (.val (.int c)), some (.val (.int g)), none, none] := by
  have hb1 := h.b1; have hb2 := h.b2
  have pl := prL_len b m c g
  have pn : 0 < (prL b m c g).length := by omega
  have bl : bestL b m c g = ((prL b m c g).zipIdx.filter fun q => decide (q.1 = minOf (prL b m c g))).map fun q => (q.2 : Int) + 1 := rfl
  generalize bestL b m c g = L at bl
  generalize prL b m c g = P at pl pn bl ⊢
  have mn := minOf_eq pn
  have z1 : (fzs (P.map fun i => W.val (.int i))) = P.map .int := fzs_iv P
  have key : ∀ w : W, w.fz = .lst (P.map .int) → ∀ q ∈ P.zipIdx, evTs GG (Cl d) (.cons (.v (.cmp .Eq (.ix (.rd 4) (.rd 10)) (.bi .min (.cons (.rd 4) .nil)))) .nil) [some (.val (.scr ns)), some (.val (.int k)), x2, some (.val (.int b)), some w, x5, some (.val (.int m)), some (.val (.int c)), some (.val (.int g)), none, some (.val (.int (q.2 : Nat)))] =
      .ok (decide (q.1 = minOf P)) [some (.val (.scr ns)), some (.val (.int k)), x2, some (.val (.int b)), some (.val (.lst (P.map .int))), x5, some (.val (.int m)), some (.val (.int c)), some (.val (.int g)), none, some (.val (.int (q.2 : Nat)))] := fun w hw q hq => by
    have i0 : ixT (.lst (P.map .int)) (.int (q.2 : Nat)) = some (.int q.1) := by
      rw [ix_lst, List.getElem?_map, zip_at hq]
      rfl
    have i1 : L2.atI (P.map T.int) (q.2 : Int) = some (.int q.1) := at_map (zip_at hq)
    by_cases z : q.1 = minOf P <;> simp_arith! [hw, i1, mn, eqT_int, z]
  obtain ⟨env', he, l3⟩ := lcL_inv (e := fun q : Int × Nat => T.int q.2) (p := fun q => decide (q.1 = minOf P)) (f := fun q => W.val (.int ((q.2 : Int) + 1))) (tg := .var 10) (own := [10])
    (test := evTs GG (Cl d) (.cons (.v (.cmp .Eq (.ix (.rd 4) (.rd 10)) (.bi .min (.cons (.rd 4) .nil)))) .nil)) (elt := evE GG (Cl d) (.op .Add (.rd 10) (.int 1)))
    (P := fun env => ∃ w : W, w.fz = .lst (P.map .int) ∧ env = [some (.val (.scr ns)), some (.val (.int k)), x2, some (.val (.int b)), some w, x5, some (.val (.int m)), some (.val (.int c)), some (.val (.int g)), none, none]) P.zipIdx []
    [some (.val (.scr ns)), some (.val (.int k)), x2, some (.val (.int b)), some (.lst (P.map fun i => .val (.int i))), x5, some (.val (.int m)), some (.val (.int c)), some (.val (.int g)), none, none] (by rw [List.length_zipIdx]; simp only [List.length_nil]; omega) ⟨_, by show T.lst (fzs _) = _; rw [z1], rfl⟩ fun q hq env he => by
      obtain ⟨w, hw, rfl⟩ := he
      refine ⟨_, rfl, _, key w hw q hq, fun _ => ⟨[some (.val (.scr ns)), some (.val (.int k)), x2, some (.val (.int b)), some (.val (.lst (P.map .int))), x5, some (.val (.int m)), some (.val (.int c)), some (.val (.int g)), none, some (.val (.int (q.2 : Nat)))], ?_, rfl, _, rfl, rfl⟩, fun _ => ⟨rfl, _, rfl, rfl⟩⟩
      simp_arith! []
  obtain ⟨w, _, rfl⟩ := he
  rw [List.nil_append, nums_map] at l3
  have o3 : okR b = true := by simp only [okR, Bool.and_eq_true, decide_eq_true_eq]; omega
  have r0 : rngT (.int b) none = some (rngI 0 P.length) := by
    show (if okR b = true then some (rngI 0 b.toNat) else none) = _
    rw [o3, if_pos rfl, pl]
  have i3 : evI GG (Cl d) (.rng (.rd 3) .no) [some (.val (.scr ns)), some (.val (.int k)), x2, some (.val (.int b)), some (.lst (P.map fun i => .val (.int i))), x5, some (.val (.int m)), some (.val (.int c)), some (.val (.int g)), none, none] =
      .ok ((rngI 0 P.length).map .int) [some (.val (.scr ns)), some (.val (.int k)), x2, some (.val (.int b)), some (.lst (P.map fun i => .val (.int i))), x5, some (.val (.int m)), some (.val (.int c)), some (.val (.int g)), none, none] := by
    simp_arith! [r0]
  have v3 := ev_lc i3 rfl l3
  have e3 : (P.zipIdx.filter fun q => decide (q.1 = minOf P)).map (fun q => W.val (.int ((q.2 : Int) + 1))) = L.map fun i => .val (.int i) := by
    rw [bl, List.map_map]
    rfl
  rw [e3] at v3
  refine ⟨w, ?_⟩
  show ((evE GG (Cl d) _ _).bind _) = _
  rw [v3]
  rfl
end
end Zk71
namespace Zk71
open PySem Ev
theorem c20 (d : Nat) (ns : List Int) (k : Int) (hk : 0 ≤ k) (hk' : k ≤ 1000) : ∃ p0 p1, PoolOk p1 ∧ Cl (d + 1) 20 [.val (.scr ns), .val (.int k)] = .ok (PoolW p0 p1) [] := by
  obtain ⟨p0, p1, env, h1, h2⟩ := pool_ev GG (Cl d) ns k hk hk'
  exact ⟨p0, p1, h1, call_rt (fd := fd20) rfl rfl h2⟩
theorem c21 (d : Nat) (p0 p1 m : Int) (h : PoolOk p1) (hm : 0 < m) (hm' : m < 1073741824) : ∃ r q0 q1, 0 ≤ r ∧ r < m ∧ PoolOk q1 ∧ Cl (d + 1) 21 [PoolW p0 p1, .val (.int m)] = .ok (.val (.int r)) [some (PoolW q0 q1)] := by
  obtain ⟨r, q0, q1, h1, h2, h3, h4⟩ := take_ev GG (Cl d) p0 p1 m h hm hm'
  exact ⟨r, q0, q1, h1, h2, h3, call_rt (fd := fd21) (env := [some (PoolW q0 q1), some (.val (.int m)), none]) rfl rfl h4⟩
theorem refused_ev : Cl 8 30 [] = .ok (.val (.bl true)) [] := by kernel_rfl
def body29 : Ss := match ir29 with
  | .cons (.for_ _ _ b) _ => b
  | _ => .nil
theorem two (t : Int) (h0 : 0 ≤ t) (h1 : t < 2) : ∃ v : Int, L2.atI [T.int 12, .int 300] t = some (.int v) ∧ 0 < v ∧ v ≤ 300 := by
  have : t = 0 ∨ t = 1 := by omega
  rcases this with rfl | rfl
  · exact ⟨12, rfl, by decide, by decide⟩
  · exact ⟨300, rfl, by decide, by decide⟩
theorem eqT_self (L : List Int) : eqT (.lst (L.map .int)) (.lst (L.map .int)) = some true := by
  rw [eqT_ints]
  simp
theorem iter (d : Nat) (ns : List Int) (k : Int) (hk : 0 ≤ k) (hk' : k ≤ 1000) (x2 x3 x4 x5 x6 x7 x8 : Option W) :
    ∃ y2 y3 y4 y5 y6 y7 y8, evSs GG (Cl (d + 7)) body29 [some (.val (.scr ns)), some (.val (.int k)), x2, x3, x4, x5, x6, x7, x8, none, none] =
      .ok .nx [some (.val (.scr ns)), some (.val (.int k)), y2, y3, y4, y5, y6, y7, y8, none, none] := by
  obtain ⟨p0, p1, hp, e20⟩ := c20 (d + 6) ns k hk hk'
  obtain ⟨t1, q0, q1, a1, a2, hq, e21⟩ := c21 (d + 6) p0 p1 2 hp (by decide) (by decide)
  obtain ⟨v, hv, v0, v1⟩ := two t1 a1 a2
  obtain ⟨t2, u0, u1, b1, b2, hu, f21⟩ := c21 (d + 6) q0 q1 v hq v0 (by omega)
  obtain ⟨b, hb⟩ : ∃ b, 1 + t2 = b := ⟨_, rfl⟩
  obtain ⟨t3, w0, w1, d1, d2, hw, g21⟩ := c21 (d + 6) u0 u1 b hu (by omega) (by omega)
  obtain ⟨m, hm⟩ : ∃ m, 1 + t3 = m := ⟨_, rfl⟩
  obtain ⟨c, y0, y1, f1, f2, hy, h21⟩ := c21 (d + 6) w0 w1 30 hw (by decide) (by decide)
  obtain ⟨g, z0, z1, k1, k2, hz, k21⟩ := c21 (d + 6) y0 y1 30 hy (by decide) (by decide)
  have h : Dr b m := ⟨by omega, by omega, by omega, by omega⟩
  have c2' : c ≤ 30 := by omega
  have g2' : g ≤ 30 := by omega
  have bs := best_ev h f1 c2' k1 g2' d
  have b11 := best_ev (c := 1) (g := 1) h (by decide) (by decide) (by decide) (by decide) d
  obtain ⟨w, due⟩ := due_ev h f1 c2' k1 g2' (d + 7) ns k (some (PoolW z0 z1)) x5
  have l1 : lcL (.var 9) [9] (evTs GG (Cl (d + 7)) .nil) (evE GG (Cl (d + 7)) (.call 32 (.cons (.rd 3) (.cons (.rd 9) (.cons (.rd 6) (.cons (.rd 7) (.cons (.rd 8) .nil))))) [])) ((rngI 1 b.toNat).map .int) []
      [some (.val (.scr ns)), some (.val (.int k)), some (PoolW z0 z1), some (.val (.int b)), x4, x5, some (.val (.int m)), some (.val (.int c)), some (.val (.int g)), none, none] =
      .ok ((rngI 1 b.toNat).map fun s => .val (.int (prI b m c g s))) [some (.val (.scr ns)), some (.val (.int k)), some (PoolW z0 z1), some (.val (.int b)), x4, x5, some (.val (.int m)), some (.val (.int c)), some (.val (.int g)), none, none] := by
    refine lcL_all rfl (rngI 1 b.toNat) (by rw [rngI_len]; have := h.b2; omega) (fun a _ => rfl) fun a ha => ?_
    obtain ⟨r1, r2⟩ := rng_mem ha
    have e := c32 h r1 (by have := h.b1; omega) f1 c2' k1 g2' (d + 6)
    simp_arith! [e]
  have i1 : evI GG (Cl (d + 7)) (.rng (.int 1) (.so (.op .Add (.rd 3) (.int 1)))) [some (.val (.scr ns)), some (.val (.int k)), some (PoolW z0 z1), some (.val (.int b)), x4, x5, some (.val (.int m)), some (.val (.int c)), some (.val (.int g)), none, none] =
      .ok ((rngI 1 b.toNat).map .int) [some (.val (.scr ns)), some (.val (.int k)), some (PoolW z0 z1), some (.val (.int b)), x4, x5, some (.val (.int m)), some (.val (.int c)), some (.val (.int g)), none, none] := by
    have r := rngU h f1 c2' k1 g2'
    simp_arith! [r]
  have v1 := ev_lc i1 rfl l1
  have e1 : ((rngI 1 b.toNat).map fun s => W.val (.int (prI b m c g s))) = (prL b m c g).map fun i => .val (.int i) := by
    unfold prL
    rw [List.map_map]
    rfl
  rw [e1] at v1
  have fz := fzs_iv (bestL b m c g)
  have fz1 := fzs_iv (bestL b m 1 1)
  have se := eqT_self (bestL b m c g)
  have se1 := eqT_self (bestL b m 1 1)
  refine ⟨some (PoolW z0 z1), some (.val (.int b)), some w, some (.val (.lst ((bestL b m c g).map .int))), some (.val (.int m)), some (.val (.int c)), some (.val (.int g)), ?_⟩
  refine ss_step (env1 := [some (.val (.scr ns)), some (.val (.int k)), some (PoolW p0 p1), x3, x4, x5, x6, x7, x8, none, none]) (by simp_arith! [e20]) ?_
  refine ss_step (env1 := [some (.val (.scr ns)), some (.val (.int k)), some (PoolW u0 u1), some (.val (.int b)), x4, x5, x6, x7, x8, none, none]) (by simp_arith! [qA_iol, e21, hv, f21, hb]) ?_
  refine ss_step (env1 := [some (.val (.scr ns)), some (.val (.int k)), some (PoolW z0 z1), some (.val (.int b)), x4, x5, some (.val (.int m)), some (.val (.int c)), some (.val (.int g)), none, none]) (by simp_arith! [g21, h21, k21, hm, tgE]) ?_
  refine ss_step (env1 := [some (.val (.scr ns)), some (.val (.int k)), some (PoolW z0 z1), some (.val (.int b)), some (.lst ((prL b m c g).map fun i => .val (.int i))), x5, some (.val (.int m)), some (.val (.int c)), some (.val (.int g)), none, none]) (by
    show ((evE GG (Cl (d + 7)) _ _).bind _) = _
    rw [v1]
    rfl) ?_
  refine ss_step due ?_
  refine ss_step (env1 := [some (.val (.scr ns)), some (.val (.int k)), some (PoolW z0 z1), some (.val (.int b)), some w, some (.val (.lst ((bestL b m c g).map .int))), some (.val (.int m)), some (.val (.int c)), some (.val (.int g)), none, none]) (by
    simp_arith! [qE_callw, arr, callR, bs, fz, se]) ?_
  refine ss_step (env1 := [some (.val (.scr ns)), some (.val (.int k)), some (PoolW z0 z1), some (.val (.int b)), some w, some (.val (.lst ((bestL b m c g).map .int))), some (.val (.int m)), some (.val (.int c)), some (.val (.int g)), none, none]) (by
    simp_arith! [qE_callw, arr, callR, b11, fz1, se1]) ?_
  rfl
theorem turns (d : Nat) (ns : List Int) : ∀ (ks : List Int), (∀ k ∈ ks, 0 ≤ k ∧ k ≤ 1000) → ∀ x1 x2 x3 x4 x5 x6 x7 x8 : Option W,
    ∃ y1 y2 y3 y4 y5 y6 y7 y8, forL (.var 1) (evSs GG (Cl (d + 7)) body29) (ks.map .int) [some (.val (.scr ns)), x1, x2, x3, x4, x5, x6, x7, x8, none, none] = .ok .nx [some (.val (.scr ns)), y1, y2, y3, y4, y5, y6, y7, y8, none, none]
  | [], _, x1, x2, x3, x4, x5, x6, x7, x8 => ⟨x1, x2, x3, x4, x5, x6, x7, x8, rfl⟩
  | k :: ks, h, x1, x2, x3, x4, x5, x6, x7, x8 => by
    obtain ⟨y2, y3, y4, y5, y6, y7, y8, e⟩ := iter d ns k (h k List.mem_cons_self).1 (h k List.mem_cons_self).2 x2 x3 x4 x5 x6 x7 x8
    obtain ⟨z1, z2, z3, z4, z5, z6, z7, z8, e2⟩ := turns d ns ks (fun j hj => h j (List.mem_cons_of_mem _ hj)) (some (.val (.int k))) y2 y3 y4 y5 y6 y7 y8
    refine ⟨z1, z2, z3, z4, z5, z6, z7, z8, ?_⟩
    show ((evSs GG (Cl (d + 7)) body29 [some (.val (.scr ns)), some (.val (.int k)), x2, x3, x4, x5, x6, x7, x8, none, none]).bind _) = _
    rw [e]
    exact e2
theorem law (ns : List Int) : ∃ o, Cl 9 29 [.val (.scr ns)] = .ok (.val (.bl true)) o := by
  obtain ⟨n, n0, n3, i0⟩ : ∃ n : Int, 0 ≤ n ∧ n ≤ 3 ∧ evI GG (Cl 8) (.rng (.bi .max (.cons (.int 1) (.cons (.bi .min (.cons (.bi .len (.cons (.rd 0) .nil)) (.cons (.int 3) .nil))) .nil))) .no) [some (.val (.scr ns)), none, none, none, none, none, none, none, none, none, none] =
      .ok ((rngI 0 n.toNat).map .int) [some (.val (.scr ns)), none, none, none, none, none, none, none, none, none, none] := by
    refine ⟨if (if (3 : Int) < ns.length then 3 else (ns.length : Int)) > 1 then (if (3 : Int) < ns.length then 3 else (ns.length : Int)) else 1, by split <;> omega, by (repeat' split) <;> omega, ?_⟩
    have ok : okR (if (if (3 : Int) < ns.length then 3 else (ns.length : Int)) > 1 then (if (3 : Int) < ns.length then 3 else (ns.length : Int)) else 1) = true := by
      simp only [okR, Bool.and_eq_true, decide_eq_true_eq]
      (repeat' split) <;> omega
    generalize hg : (if (if (3 : Int) < ns.length then 3 else (ns.length : Int)) > 1 then (if (3 : Int) < ns.length then 3 else (ns.length : Int)) else 1) = n at ok
    have hmx : maxT [.int 1, .int (if (3 : Int) < ns.length then 3 else (ns.length : Int))] = some (.val (.int n)) := by
      rw [← hg]
      rfl
    have hmn : minT [.int ns.length, .int 3] = some (.val (.int (if (3 : Int) < ns.length then 3 else (ns.length : Int)))) := rfl
    simp_arith! [hmn, hmx, rngT, ok]
  obtain ⟨y1, y2, y3, y4, y5, y6, y7, y8, e⟩ := turns 1 ns (rngI 0 n.toNat) (fun k hk => by
    have := rng_mem hk
    omega) none none none none none none none none
  have f : evS GG (Cl 8) (.for_ (.var 1) (.rng (.bi .max (.cons (.int 1) (.cons (.bi .min (.cons (.bi .len (.cons (.rd 0) .nil)) (.cons (.int 3) .nil))) .nil))) .no) body29) [some (.val (.scr ns)), none, none, none, none, none, none, none, none, none, none] = .ok .nx [some (.val (.scr ns)), y1, y2, y3, y4, y5, y6, y7, y8, none, none] := by
    show ((evI GG (Cl 8) _ _).bind _) = _
    rw [i0]
    exact e
  refine ⟨_, call_rt (fd := fd29) (env := [some (.val (.scr ns)), y1, y2, y3, y4, y5, y6, y7, y8, none, none]) rfl rfl ?_⟩
  show evSs GG (Cl 8) ir29 [some (.val (.scr ns)), none, none, none, none, none, none, none, none, none, none] = _
  refine ss_step f ?_
  show (((evE GG (Cl 8) (.call 30 .nil []) _).bind _).bind _) = _
  rw [show evE GG (Cl 8) (.call 30 .nil []) [some (.val (.scr ns)), y1, y2, y3, y4, y5, y6, y7, y8, none, none] = .ok (.val (.bl true)) [some (.val (.scr ns)), y1, y2, y3, y4, y5, y6, y7, y8, none, none] by
    show ((match Cl 8 30 [] with
      | .ok w outs => R.ok w (backO [] outs _)
      | .exc c t outs => .exc c t (backO [] outs _)
      | .no => .no) : R W) = _
    rw [refused_ev]
    rfl]
  rfl
end Zk71
theorem PySem.Challenge.cw_markedregions_k71_whole_best_sizes_by_tr_holds : PySem.Challenge.rw_markedregions_k71_whole_best_sizes_by_tr.Holds := by
  exact Zk71.H.law_of Zk71.law
