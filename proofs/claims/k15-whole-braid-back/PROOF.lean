import PyProof.Rows.All
import Wide.All
import OpenK.AllK
import Wide.FinOn
import HandS.ForMost
import HandS.Conv
import HandS.Rev
import HandS.Style
import HandS.IsInst
import HandS.SortInts
import HandS.Wide
import HandS.Star
import HandS.ForExc
import HandS.WordsExc
import HandS.ExcIs
import HandS.TupMul
import HandS.Strs
import HandS.SortOrd
import KE.GoesMore
import KE.RegKIsAll
import KE.RegKTryMore
import PyProof.EqAt
import PyProof.FactsAll.tuple
import PySem.Challenge.RW_sennit_k15_whole_braid_back
set_option Elab.async false
set_option linter.all false
set_option maxRecDepth 100000
set_option maxHeartbeats 4000000
/-! JP: a small reading of the Python subset over plain data: what a body computes, with lists that are owned, lent or frozen. No heap in sight. -/
namespace J
open PySem
abbrev D := PyData
/-- a thing of one's own: a part that is frozen data, a flat list, a list with parts, a tuple with parts, a flat dict -/
inductive Ob where
  | fz (d : D) | fl (ds : List D) | ls (its : List Ob) | tp (its : List Ob) | dc (kvs : List (D × D))
mutual
/-- its data -/
def er : Ob → D
  | .fz d => d
  | .fl ds => .list ds
  | .ls its => .list (erA its)
  | .tp its => .tuple (erA its)
  | .dc kvs => .dict kvs
def erA : List Ob → List D
  | [] => []
  | o :: os => er o :: erA os
end
inductive Rt where
  | fz (d : D) | ow (ds : List D) | nt (o : Ob)
/-- a slot: nothing known; frozen data; a list of one's own; a list that is lent; the script -/
inductive Sl where
  | no | fz (d : D) | ow (ds : List D) | bw (ds : List D) | sc (ds : List D) | nt (o : Ob)
abbrev Env := List Sl
inductive RV where
  | fz (d : D) | sl (i : Nat) | tm (ds : List D) | nt (o : Ob)
abbrev M (α : Type) := Env → Option (α × Env)
def toRV : Rt → RV
  | .fz d => .fz d
  | .ow ds => .tm ds
  | .nt o => .nt o
@[simp] theorem toRV_1 {d} : toRV (.fz d) = .fz d := (rfl)
@[simp] theorem toRV_2 {ds} : toRV (.ow ds) = .tm ds := (rfl)
@[simp] theorem toRV_3 {o} : toRV (.nt o) = .nt o := (rfl)
@[simp] def dr (env : Env) : RV → Option D
  | .fz d => some d
  | .tm ds => some (.list ds)
  | .nt _ => none
  | .sl i => match env[i]? with
    | some (.fz d) => some d
    | some (.ow ds) => some (.list ds)
    | some (.bw ds) => some (.list ds)
    | _ => none
@[simp] def fzv (env : Env) : RV → Option (D × Env)
  | .fz d => some (d, env)
  | .tm ds => some (.list ds, env)
  | .nt o => some (er o, env)
  | .sl i => match env[i]? with
    | some (.fz d) => some (d, env)
    | some (.ow ds) => some (.list ds, env.set i (.fz (.list ds)))
    | some (.nt o) => some (er o, env.set i (.fz (er o)))
    | _ => none
@[simp] def eVar (i : Nat) (env : Env) : Option (RV × Env) := match env[i]? with
  | some (.fz d) => some (.fz d, env)
  | some (.ow _) => some (.sl i, env)
  | some (.bw _) => some (.sl i, env)
  | some (.nt _) => some (.sl i, env)
  | _ => none
@[simp] def eC (d : D) (env : Env) : Option (RV × Env) := some (.fz d, env)
def eOp1 (g : D → Option Rt) (a : M RV) (env : Env) : Option (RV × Env) := match a env with
  | none => none
  | some (x, e1) => match dr e1 x with
    | none => none
    | some d => match g d with
      | none => none
      | some r => some (toRV r, e1)
def eOp2 (g : D → D → Option Rt) (a b : M RV) (env : Env) : Option (RV × Env) := match a env with
  | none => none
  | some (x, e1) => match b e1 with
    | none => none
    | some (y, e2) => match dr e2 x, dr e2 y with
      | some d, some e => match g d e with
        | none => none
        | some r => some (toRV r, e2)
      | _, _ => none
def eAnd (a b : M RV) (env : Env) : Option (RV × Env) := match a env with
  | some (.fz (.bool true), e1) => b e1
  | some (.fz (.bool false), e1) => some (.fz (.bool false), e1)
  | _ => none
def eOr (a b : M RV) (env : Env) : Option (RV × Env) := match a env with
  | some (.fz (.bool true), e1) => some (.fz (.bool true), e1)
  | some (.fz (.bool false), e1) => b e1
  | _ => none
def eNot (a : M RV) (env : Env) : Option (RV × Env) := match a env with
  | some (.fz (.bool b), e1) => some (.fz (.bool (!b)), e1)
  | _ => none
def eIf (t : M Bool) (a b : M RV) (env : Env) : Option (RV × Env) := match t env with
  | some (true, e1) => a e1
  | some (false, e1) => b e1
  | none => none
@[simp] def aNil (env : Env) : Option (List D × Env) := some ([], env)
def aCons (e : M RV) (r : M (List D)) (env : Env) : Option (List D × Env) := match e env with
  | none => none
  | some (x, e1) => match fzv e1 x with
    | none => none
    | some (d, e2) => match r e2 with
      | none => none
      | some (ds, e3) => some (d :: ds, e3)
def eTup (es : M (List D)) (env : Env) : Option (RV × Env) := match es env with
  | none => none
  | some (ds, e1) => some (.fz (.tuple ds), e1)
def eLst (es : M (List D)) (env : Env) : Option (RV × Env) := match es env with
  | none => none
  | some (ds, e1) => some (.tm ds, e1)
/-! tests -/
def tVal (e : M RV) (env : Env) : Option (Bool × Env) := match e env with
  | some (.fz (.bool b), e1) => some (b, e1)
  | _ => none
def truD : D → Option Bool
  | .none => some false
  | .bool b => some b
  | .int i => some (i != 0)
  | .list ds => some (!ds.isEmpty)
  | .tuple ds => some (!ds.isEmpty)
  | _ => none
@[simp] theorem truD_1  : truD (.none) = some false := (rfl)
@[simp] theorem truD_2 {b} : truD (.bool b) = some b := (rfl)
@[simp] theorem truD_3 {i} : truD (.int i) = some (i != 0) := (rfl)
@[simp] theorem truD_4 {ds} : truD (.list ds) = some (!ds.isEmpty) := (rfl)
@[simp] theorem truD_5 {ds} : truD (.tuple ds) = some (!ds.isEmpty) := (rfl)
def tTru (e : M RV) (env : Env) : Option (Bool × Env) := match e env with
  | none => none
  | some (x, e1) => match dr e1 x with
    | none => none
    | some d => match truD d with
      | none => none
      | some b => some (b, e1)
def tAnd (t u : M Bool) (env : Env) : Option (Bool × Env) := match t env with
  | some (true, e1) => u e1
  | some (false, e1) => some (false, e1)
  | none => none
def tOr (t u : M Bool) (env : Env) : Option (Bool × Env) := match t env with
  | some (true, e1) => some (true, e1)
  | some (false, e1) => u e1
  | none => none
def tNot (t : M Bool) (env : Env) : Option (Bool × Env) := match t env with
  | some (b, e1) => some (!b, e1)
  | none => none
@[simp] def tYes (env : Env) : Option (Bool × Env) := some (true, env)
/-! slices: an optional bound -/
@[simp] def oNo (env : Env) : Option (Option Int × Env) := some (none, env)
def oSo (e : M RV) (env : Env) : Option (Option Int × Env) := match e env with
  | some (.fz (.int i), e1) => some (some i, e1)
  | _ => none
def eSl (g : D → Option Int → Option Int → Option Rt) (a : M RV) (lo hi : M (Option Int)) (env : Env) : Option (RV × Env) := match a env with
  | none => none
  | some (x, e1) => match lo e1 with
    | none => none
    | some (l, e2) => match hi e2 with
      | none => none
      | some (h, e3) => match dr e3 x with
        | none => none
        | some d => match g d l h with
          | none => none
          | some r => some (toRV r, e3)
/-! statements -/
/-- an exception: its class by name, its fields -/
structure EC where
  nm : Str
  fs : List (Str × D)
inductive Fl where
  | nx (env : Env) | bk (env : Env) | ct (env : Env) | rt (r : Rt) (env : Env) | ex (c : EC) (env : Env)
abbrev SM := Env → Option Fl
@[simp] def sNil (env : Env) : Option Fl := some (.nx env)
def sSeq (a b : SM) (env : Env) : Option Fl := match a env with
  | some (.nx e1) => b e1
  | r => r
@[simp] def sBk (env : Env) : Option Fl := some (.bk env)
@[simp] def sCt (env : Env) : Option Fl := some (.ct env)
def sAsg (i : Nat) (e : M RV) (env : Env) : Option Fl := match e env with
  | none => none
  | some (.fz d, e1) => some (.nx (e1.set i (.fz d)))
  | some (.tm ds, e1) => some (.nx (e1.set i (.ow ds)))
  | some (.nt o, e1) => some (.nx (e1.set i (.nt o)))
  | some (.sl j, e1) => match fzv e1 (.sl j) with
    | none => none
    | some (d, e2) => some (.nx (e2.set i (.fz d)))
def sDrop (e : M RV) (env : Env) : Option Fl := match e env with
  | none => none
  | some (_, e1) => some (.nx e1)
def sIf (t : M Bool) (a b : SM) (env : Env) : Option Fl := match t env with
  | some (true, e1) => a e1
  | some (false, e1) => b e1
  | none => none
def sRet (e : M RV) (env : Env) : Option Fl := match e env with
  | none => none
  | some (.fz d, e1) => some (.rt (.fz d) e1)
  | some (.tm ds, e1) => some (.rt (.ow ds) e1)
  | some (.nt o, e1) => some (.rt (.nt o) e1)
  | some (.sl i, e1) => match e1[i]? with
    | some (.fz d) => some (.rt (.fz d) e1)
    | some (.ow ds) => some (.rt (.ow ds) (e1.set i .no))
    | some (.nt o) => some (.rt (.nt o) (e1.set i .no))
    | _ => none
@[simp] def sRetN (env : Env) : Option Fl := some (.rt (.fz .none) env)
/-! lists of one's own, changed -/
def limit : Nat := 16777216
def sApp (i : Nat) (e : M RV) (env : Env) : Option Fl := match env[i]? with
  | some (.ow _) => match e env with
    | none => none
    | some (x, e1) => match fzv e1 x with
      | none => none
      | some (d, e2) => match e2[i]? with
        | some (.ow ds) => if ds.length < limit then some (.nx (e2.set i (.ow (ds ++ [d])))) else none
        | _ => none
  | _ => none
def seqD : D → Option (List D)
  | .list es => some es
  | .tuple es => some es
  | _ => none
@[simp] theorem seqD_1 {es} : seqD (.list es) = some es := (rfl)
@[simp] theorem seqD_2 {es} : seqD (.tuple es) = some es := (rfl)
def sExt (i : Nat) (e : M RV) (env : Env) : Option Fl := match env[i]? with
  | some (.ow _) => match e env with
    | none => none
    | some (x, e1) => match dr e1 x with
      | none => none
      | some d => match seqD d with
        | none => none
        | some es => match e1[i]? with
          | some (.ow ds) => if ds.length + es.length ≤ limit then some (.nx (e1.set i (.ow (ds ++ es)))) else none
          | _ => none
  | _ => none
def sExtL (i : Nat) (e : M RV) (env : Env) : Option Fl := match env[i]? with
  | some (.ow _) => match e env with
    | none => none
    | some (x, e1) => match dr e1 x with
      | some (.list es) => match e1[i]? with
        | some (.ow ds) => if ds.length + es.length ≤ limit then some (.nx (e1.set i (.ow (ds ++ es)))) else none
        | _ => none
      | _ => none
  | _ => none
def sAug (i : Nat) (g : Int → Int → Int) (e : M RV) (env : Env) : Option Fl := match env[i]? with
  | some (.fz (.int a)) => match e env with
    | some (.fz (.int b), e1) => some (.nx (e1.set i (.fz (.int (g a b)))))
    | _ => none
  | _ => none
@[simp] def ePop (i : Nat) (env : Env) : Option (RV × Env) := match env[i]? with
  | some (.ow ds) => match ds.getLast? with
    | some d => some (.fz d, env.set i (.ow ds.dropLast))
    | none => none
  | _ => none
def ixN (n : Nat) (i : Int) : Option Nat := if 0 ≤ i then (if i < n then some i.toNat else none) else if -(n : Int) ≤ i then some (i + n).toNat else none
def sSet (i : Nat) (ie e : M RV) (env : Env) : Option Fl := match e env with
  | none => none
  | some (x, e1) => match fzv e1 x with
    | none => none
    | some (d, e2) => match e2[i]? with
      | some (.ow _) => match ie e2 with
        | some (.fz (.int k), e3) => match e3[i]? with
          | some (.ow ds) => match ixN ds.length k with
            | some j => some (.nx (e3.set i (.ow (ds.set j d))))
            | none => none
          | _ => none
        | _ => none
      | _ => none
/-- x, y = a, b with plain names: stored from the right -/
@[simp] def setF : List Nat → List D → Env → Option Env
  | [], [], env => some env
  | i :: is, d :: ds, env => setF is ds (env.set i (.fz d))
  | _, _, _ => none
def sPar (is : List Nat) (es : M (List D)) (env : Env) : Option Fl := match es env with
  | none => none
  | some (ds, e) => match setF is ds e with
    | none => none
    | some e1 => some (.nx e1)
/-! targets -/
abbrev G := D → Env → Option Env
@[simp] def gNm (i : Nat) (d : D) (env : Env) : Option Env := some (env.set i (.fz d))
abbrev GL := List D → Env → Option Env
@[simp] def glNil (ds : List D) (env : Env) : Option Env := match ds with
  | [] => some env
  | _ => none
def glCons (g : G) (r : GL) (ds : List D) (env : Env) : Option Env := match ds with
  | [] => none
  | d :: ds => match g d env with
    | some e1 => r ds e1
    | none => none
@[simp] def gTp (r : GL) (d : D) (env : Env) : Option Env := match d with
  | .tuple ds => r ds env
  | _ => none
def sUnp (g : G) (e : M RV) (env : Env) : Option Fl := match e env with
  | none => none
  | some (x, e1) => match fzv e1 x with
    | none => none
    | some (d, e2) => match g d e2 with
      | some e3 => some (.nx e3)
      | none => none
/-! loops -/
@[simp] def ers : List Nat → Env → Env
  | [], env => env
  | i :: r, env => ers r (env.set i .no)
def runFor (g : G) (body : SM) (er : List Nat) : List D → Env → Option Fl
  | [], env => some (.nx env)
  | d :: ds, env => match g d env with
    | none => none
    | some e1 => match body e1 with
      | some (.nx e2) => runFor g body er ds (ers er e2)
      | some (.ct e2) => runFor g body er ds (ers er e2)
      | some (.bk e2) => some (.nx (ers er e2))
      | some (.rt r e2) => some (.rt r e2)
      | some (.ex c e2) => some (.ex c e2)
      | none => none
def sFor (er : List Nat) (g : G) (it : M (List D)) (body : SM) (env : Env) : Option Fl := match it env with
  | none => none
  | some (ds, e1) => runFor g body er ds (ers er e1)
def runWhile (t : M Bool) (body : SM) (er : List Nat) : Nat → Env → Option Fl
  | 0, _ => none
  | n + 1, env => match t env with
    | none => none
    | some (false, e1) => some (.nx e1)
    | some (true, e1) => match body e1 with
      | some (.nx e2) => runWhile t body er n (ers er e2)
      | some (.ct e2) => runWhile t body er n (ers er e2)
      | some (.bk e2) => some (.nx (ers er e2))
      | some (.rt r e2) => some (.rt r e2)
      | some (.ex c e2) => some (.ex c e2)
      | none => none
def sWhile (n : Nat) (er : List Nat) (t : M Bool) (body : SM) (env : Env) : Option Fl := runWhile t body er n (ers er env)
@[simp] def bwOf (env : Env) : RV → Option (List D)
  | .sl i => match env[i]? with
    | some (.bw ds) => some ds
    | _ => none
  | _ => none
def itSeq (e : M RV) (env : Env) : Option (List D × Env) := match e env with
  | none => none
  | some (x, e1) => match bwOf e1 x with
    | some ds => some (ds, e1)
    | none => match fzv e1 x with
      | none => none
      | some (d, e2) => match seqD d with
        | some ds => some (ds, e2)
        | none => none
def big : Int := 4611686018427387904
def rngD (lo : Int) (n : Nat) : List D := (List.range n).map fun k => .int (lo + (k : Nat))
def itR1 (a : M RV) (env : Env) : Option (List D × Env) := match a env with
  | some (.fz (.int n), e1) => if -big ≤ n ∧ n < big then some (rngD 0 n.toNat, e1) else none
  | _ => none
def itR2 (a b : M RV) (env : Env) : Option (List D × Env) := match a env with
  | some (.fz (.int m), e1) => match b e1 with
    | some (.fz (.int n), e2) => if (-big ≤ m ∧ m < big) ∧ -big ≤ n ∧ n < big then some (rngD m (n - m).toNat, e2) else none
    | _ => none
  | _ => none
def enum (k : Nat) : List D → List D
  | [] => []
  | d :: ds => .tuple [.int (k : Nat), d] :: enum (k + 1) ds
def itEn (it : M (List D)) (env : Env) : Option (List D × Env) := match it env with
  | none => none
  | some (ds, e1) => some (enum 0 ds, e1)
def itRv (a : M RV) (env : Env) : Option (List D × Env) := match itSeq a env with
  | none => none
  | some (ds, e) => some (ds.reverse, e)
/-- list(range(..)), tuple(range(..)) -/
def eRgL (it : M (List D)) (env : Env) : Option (RV × Env) := match it env with
  | some (ds, e) => if ds.length ≤ limit then some (.tm ds, e) else none
  | none => none
def eRgT (it : M (List D)) (env : Env) : Option (RV × Env) := match it env with
  | some (ds, e) => if ds.length ≤ limit then some (.fz (.tuple ds), e) else none
  | none => none
/-! comprehensions -/
def runLc (g : G) (t : M Bool) (e : M RV) (er : List Nat) : List D → Env → Option (List D × Env)
  | [], env => some ([], env)
  | d :: ds, env => match g d env with
    | none => none
    | some e1 => match t e1 with
      | none => none
      | some (false, e2) => runLc g t e er ds (ers er e2)
      | some (true, e2) => match e e2 with
        | none => none
        | some (x, e3) => match fzv e3 x with
          | none => none
          | some (y, e4) => match runLc g t e er ds (ers er e4) with
            | none => none
            | some (ys, e5) => some (y :: ys, e5)
def eLc (er : List Nat) (g : G) (it : M (List D)) (t : M Bool) (e : M RV) (env : Env) : Option (RV × Env) := match it env with
  | none => none
  | some (ds, e1) => if ds.length ≤ limit then
      match runLc g t e er ds (ers er e1) with
      | none => none
      | some (ys, e2) => some (.tm ys, e2)
    else none
/-- two fors -/
def runLc2 (g : G) (t : M Bool) (it1 : M (List D)) (g1 : G) (t1 : M Bool) (e : M RV) (er er1 : List Nat) : List D → Env → Option (List D × Env)
  | [], env => some ([], env)
  | d :: ds, env => match g d env with
    | none => none
    | some e1 => match t e1 with
      | none => none
      | some (false, e2) => runLc2 g t it1 g1 t1 e er er1 ds (ers er e2)
      | some (true, e2) => match it1 e2 with
        | none => none
        | some (xs, e3) => match runLc g1 t1 e er1 xs (ers er1 e3) with
          | none => none
          | some (ys, e4) => match runLc2 g t it1 g1 t1 e er er1 ds (ers er e4) with
            | none => none
            | some (zs, e5) => some (ys ++ zs, e5)
def eLc2 (er er1 : List Nat) (g : G) (it : M (List D)) (t : M Bool) (g1 : G) (it1 : M (List D)) (t1 : M Bool) (e : M RV) (env : Env) : Option (RV × Env) := match it env with
  | none => none
  | some (ds, e1) => match runLc2 g t it1 g1 t1 e er er1 ds (ers er e1) with
    | none => none
    | some (ys, e2) => if ys.length ≤ limit then some (.tm ys, e2) else none
/-! defs and their calls -/
abbrev FnS := List D → Option (Rt × List (List D))
inductive PK where
  | fz | bw | mt | sc
inductive Ar where
  | fz (e : M RV) | bw (e : M RV) | mt (i : Nat) | sc (i : Nat)
inductive It where
  | d (d : D) | r (i : Nat) | m (i : Nat) | s (i : Nat)
def evA : List Ar → Env → Option (List It × Env)
  | [], env => some ([], env)
  | .fz e :: r, env => match e env with
    | none => none
    | some (x, e1) => match fzv e1 x with
      | none => none
      | some (d, e2) => match evA r e2 with
        | none => none
        | some (l, e3) => some (.d d :: l, e3)
  | .bw e :: r, env => match e env with
    | none => none
    | some (.fz d, e1) => match evA r e1 with
      | none => none
      | some (l, e3) => some (.d d :: l, e3)
    | some (.tm ds, e1) => match evA r e1 with
      | none => none
      | some (l, e3) => some (.d (.list ds) :: l, e3)
    | some (.nt o, e1) => match evA r e1 with
      | none => none
      | some (l, e3) => some (.d (er o) :: l, e3)
    | some (.sl i, e1) => match evA r e1 with
      | none => none
      | some (l, e3) => some (.r i :: l, e3)
  | .mt i :: r, env => match env[i]? with
    | some (.ow _) => match evA r env with
      | none => none
      | some (l, e3) => some (.m i :: l, e3)
    | _ => none
  | .sc i :: r, env => match env[i]? with
    | some (.sc _) => match evA r env with
      | none => none
      | some (l, e3) => some (.s i :: l, e3)
    | _ => none
@[simp] def itD (env : Env) : It → Option D
  | .d d => some d
  | .r i => dr env (.sl i)
  | .m i => match env[i]? with
    | some (.ow ds) => some (.list ds)
    | _ => none
  | .s i => match env[i]? with
    | some (.sc ds) => some (.list ds)
    | _ => none
@[simp] def itDs (env : Env) : List It → Option (List D)
  | [] => some []
  | x :: r => match itD env x, itDs env r with
    | some d, some ds => some (d :: ds)
    | _, _ => none
@[simp] def muts : List It → List Nat
  | [] => []
  | .m i :: r => i :: muts r
  | _ :: r => muts r
@[simp] def lent : List It → List Nat
  | [] => []
  | .r i :: r => i :: lent r
  | _ :: r => lent r
@[simp] def okM (l : List It) : Bool := (muts l).all (fun i => !(lent l).contains i) && decide (muts l).Nodup
@[simp] def setM : List Nat → List (List D) → Env → Env
  | i :: r, ds :: q, env => setM r q (env.set i (.ow ds))
  | _, _, env => env
def eCall (F : FnS) (as : List Ar) (env : Env) : Option (RV × Env) := match evA as env with
  | none => none
  | some (l, e1) => if okM l = true then match itDs e1 l with
    | none => none
    | some ds => match F ds with
      | some (.fz d, ms) => if ms.length = (muts l).length then some (.fz d, setM (muts l) ms e1) else none
      | some (.ow d, ms) => if ms.length = (muts l).length then some (.tm d, setM (muts l) ms e1) else none
      | some (.nt d, ms) => if ms.length = (muts l).length then some (.nt d, setM (muts l) ms e1) else none
      | none => none
    else none
/-- a call whose first argument is a fresh list that the def changes -/
def eCallT (F : FnS) (a : M RV) (as : List Ar) (env : Env) : Option (RV × Env) := match a env with
  | some (.tm xs, e0) => match evA as e0 with
    | none => none
    | some (l, e1) => if okM l = true then match itDs e1 l with
      | none => none
      | some ds => match F (.list xs :: ds) with
        | some (r, _ :: ms) => if ms.length = (muts l).length then some (toRV r, setM (muts l) ms e1) else none
        | _ => none
      else none
  | _ => none
/-- a call of a def of any number of arguments, all frozen -/
def eCallV (F : FnS) (as : M (List D)) (env : Env) : Option (RV × Env) := match as env with
  | some (ds, e) => match F [.tuple ds] with
    | some (r, []) => some (toRV r, e)
    | _ => none
  | none => none
@[simp] def ini : List PK → List D → Option Env
  | [], [] => some []
  | .fz :: ks, d :: ds => (ini ks ds).map (.fz d :: ·)
  | .bw :: ks, .list xs :: ds => (ini ks ds).map (.bw xs :: ·)
  | .bw :: ks, d :: ds => (ini ks ds).map (.fz d :: ·)
  | .mt :: ks, .list xs :: ds => (ini ks ds).map (.ow xs :: ·)
  | .sc :: ks, .list xs :: ds => (ini ks ds).map (.sc xs :: ·)
  | _, _ => none
@[simp] def fin : List PK → Env → Option (List (List D))
  | [], _ => some []
  | .mt :: ks, .ow ds :: r => (fin ks r).map (ds :: ·)
  | .mt :: _, _ => none
  | _ :: ks, _ :: r => fin ks r
  | _ :: _, [] => none
def mkFn (ks : List PK) (n : Nat) (body : SM) (ds : List D) : Option (Rt × List (List D)) := match ini ks ds with
  | none => none
  | some e0 => match body (e0 ++ List.replicate n .no) with
    | some (.nx e1) => (fin ks e1).map fun ms => (.fz .none, ms)
    | some (.rt r e1) => (fin ks e1).map fun ms => (r, ms)
    | _ => none
/-! operators, by their data -/
def mB : Int := 5260135901548373507240989882880128665550339802823173859498280903068732154297080822113666536277588451226982968856178217713019432250183803863127814770651880849955223671128444598191663757884322717271293251735781376
def addD : D → D → Option Rt
  | .int i, .int j => some (.fz (.int (i + j)))
  | .list a, .list b => if a.length + b.length ≤ limit then some (.ow (a ++ b)) else none
  | .tuple a, .tuple b => if a.length + b.length ≤ limit then some (.fz (.tuple (a ++ b))) else none
  | _, _ => none
@[simp] theorem addD_1 {i} {j} : addD (.int i) (.int j) = some (.fz (.int (i + j))) := (rfl)
theorem addD_2 {a} {b} : addD (.list a) (.list b) = if a.length + b.length ≤ limit then some (.ow (a ++ b)) else none := rfl
theorem addD_3 {a} {b} : addD (.tuple a) (.tuple b) = if a.length + b.length ≤ limit then some (.fz (.tuple (a ++ b))) else none := rfl
def subD : D → D → Option Rt
  | .int i, .int j => some (.fz (.int (i - j)))
  | _, _ => none
@[simp] theorem subD_1 {i} {j} : subD (.int i) (.int j) = some (.fz (.int (i - j))) := (rfl)
def mulD : D → D → Option Rt
  | .int i, .int j => if ((-mB < i ∧ i < mB) ∧ (-mB < j ∧ j < mB)) ∨ (-18446744073709551616 < i ∧ i < 18446744073709551616) ∨ (-18446744073709551616 < j ∧ j < 18446744073709551616) then some (.fz (.int (i * j))) else none
  | .list a, .int j => if a.length * j.toNat ≤ limit ∧ -big ≤ j ∧ j < big then some (.ow (List.replicate j.toNat a).flatten) else none
  | .tuple a, .int j => if a.length ≤ 1000 ∧ -1000 ≤ j ∧ j ≤ 1000 then some (.fz (.tuple (List.replicate j.toNat a).flatten)) else none
  | _, _ => none
theorem mulD_1 {i} {j} : mulD (.int i) (.int j) = if ((-mB < i ∧ i < mB) ∧ (-mB < j ∧ j < mB)) ∨ (-18446744073709551616 < i ∧ i < 18446744073709551616) ∨ (-18446744073709551616 < j ∧ j < 18446744073709551616) then some (.fz (.int (i * j))) else none := (rfl)
theorem mulD_2 {a} {j} : mulD (.list a) (.int j) = if a.length * j.toNat ≤ limit ∧ -big ≤ j ∧ j < big then some (.ow (List.replicate j.toNat a).flatten) else none := (rfl)
theorem mulD_3 {a} {j} : mulD (.tuple a) (.int j) = if a.length ≤ 1000 ∧ -1000 ≤ j ∧ j ≤ 1000 then some (.fz (.tuple (List.replicate j.toNat a).flatten)) else none := (rfl)
def fdivD : D → D → Option Rt
  | .int i, .int j => if j ≠ 0 ∧ -1073741824 < j ∧ j < 1073741824 then some (.fz (.int (i.fdiv j))) else none
  | _, _ => none
theorem fdivD_1 {i} {j} : fdivD (.int i) (.int j) = if j ≠ 0 ∧ -1073741824 < j ∧ j < 1073741824 then some (.fz (.int (i.fdiv j))) else none := rfl
def modD : D → D → Option Rt
  | .int i, .int j => if j ≠ 0 then some (.fz (.int (i.fmod j))) else none
  | _, _ => none
theorem modD_1 {i} {j} : modD (.int i) (.int j) = if j ≠ 0 then some (.fz (.int (i.fmod j))) else none := rfl
def powD : D → D → Option Rt
  | .int i, .int j => if (0 ≤ j ∧ j ≤ 1000000) ∧ -18446744073709551616 < i ∧ i < 18446744073709551616 then some (.fz (.int (i ^ j.toNat))) else none
  | _, _ => none
theorem powD_1 {i} {j} : powD (.int i) (.int j) = if (0 ≤ j ∧ j ≤ 1000000) ∧ -18446744073709551616 < i ∧ i < 18446744073709551616 then some (.fz (.int (i ^ j.toNat))) else none := rfl
def ltD : D → D → Option Rt
  | .int i, .int j => some (.fz (.bool (decide (i < j))))
  | _, _ => none
@[simp] theorem ltD_1 {i} {j} : ltD (.int i) (.int j) = some (.fz (.bool (decide (i < j)))) := (rfl)
def leD : D → D → Option Rt
  | .int i, .int j => some (.fz (.bool (decide (i ≤ j))))
  | _, _ => none
@[simp] theorem leD_1 {i} {j} : leD (.int i) (.int j) = some (.fz (.bool (decide (i ≤ j)))) := (rfl)
def gtD : D → D → Option Rt
  | .int i, .int j => some (.fz (.bool (decide (j < i))))
  | _, _ => none
@[simp] theorem gtD_1 {i} {j} : gtD (.int i) (.int j) = some (.fz (.bool (decide (j < i)))) := (rfl)
def geD : D → D → Option Rt
  | .int i, .int j => some (.fz (.bool (decide (j ≤ i))))
  | _, _ => none
@[simp] theorem geD_1 {i} {j} : geD (.int i) (.int j) = some (.fz (.bool (decide (j ≤ i)))) := (rfl)
mutual
def beqD : D → D → Bool
  | .none, .none => true
  | .bool a, .bool b => a == b
  | .bool a, .int j => (if a then 1 else 0) == j
  | .int i, .bool b => i == (if b then 1 else 0)
  | .int i, .int j => decide (i = j)
  | .str a, .str b => a == b
  | .list a, .list b => beqDs a b
  | .tuple a, .tuple b => beqDs a b
  | _, _ => false
def beqDs : List D → List D → Bool
  | [], [] => true
  | a :: r, b :: q => beqD a b && beqDs r q
  | _, _ => false
end
/-- its shape is plain: no texts within, not too deep -/
def shp : Nat → D → Bool
  | _, .none => true
  | _, .bool _ => true
  | _, .int _ => true
  | _, .str x => x.cps.all (· < 0x110000)
  | n + 1, .list ds => ds.all (shp n)
  | n + 1, .tuple ds => ds.all (shp n)
  | _, _ => false
@[simp] theorem shp_none (n : Nat) : shp n .none = true := by cases n <;> rfl
@[simp] theorem shp_bool (n : Nat) (b : Bool) : shp n (.bool b) = true := by cases n <;> rfl
@[simp] theorem shp_int (n : Nat) (i : Int) : shp n (.int i) = true := by cases n <;> rfl
theorem shp_str (n : Nat) (i : Str) : shp n (.str i) = i.cps.all (· < 0x110000) := by cases n <;> rfl
@[simp] theorem shp_list (n : Nat) (ds : List D) : shp (n + 1) (.list ds) = ds.all (shp n) := rfl
@[simp] theorem shp_tuple (n : Nat) (ds : List D) : shp (n + 1) (.tuple ds) = ds.all (shp n) := rfl
@[simp] theorem shp_ints (n : Nat) (ns : List Int) : (ns.map PyData.int).all (shp n) = true := by simp
@[simp] def eqD (d e : D) : Option Rt := if shp (8 + 1 + 1) d = true ∧ shp (8 + 1 + 1) e = true then some (.fz (.bool (beqD d e))) else none
@[simp] def neD (d e : D) : Option Rt := if shp (8 + 1 + 1) d = true ∧ shp (8 + 1 + 1) e = true then some (.fz (.bool (!beqD d e))) else none
@[simp] theorem beqD_int (i j : Int) : beqD (.int i) (.int j) = decide (i = j) := by simp [beqD]
theorem beqDs_ints : ∀ ns ms : List Int, beqDs (ns.map PyData.int) (ms.map PyData.int) = decide (ns = ms)
  | [], [] => rfl
  | [], _ :: _ => by simp [beqDs]
  | _ :: _, [] => by simp [beqDs]
  | n :: ns, m :: ms => by simp [beqDs, beqD, beqDs_ints ns ms]
@[simp] theorem beqD_ints (ns ms : List Int) : beqD (.list (ns.map PyData.int)) (.list (ms.map PyData.int)) = decide (ns = ms) := by simp [beqD, beqDs_ints]
@[simp] theorem beqD_tints (ns ms : List Int) : beqD (.tuple (ns.map PyData.int)) (.tuple (ms.map PyData.int)) = decide (ns = ms) := by simp [beqD, beqDs_ints]
@[simp] def isND (d : D) : Option Rt := some (.fz (.bool (match d with | .none => true | _ => false)))
@[simp] def notND (d : D) : Option Rt := some (.fz (.bool (match d with | .none => false | _ => true)))
@[simp] def isD2 (d e : D) : Option Rt := match e with | .none => isND d | _ => none
@[simp] def notD2 (d e : D) : Option Rt := match e with | .none => notND d | _ => none
def ixD : D → D → Option Rt
  | .list ds, .int i => match ixN ds.length i with
    | some j => match ds[j]? with
      | some d => some (.fz d)
      | none => none
    | none => none
  | .tuple ds, .int i => match ixN ds.length i with
    | some j => match ds[j]? with
      | some d => some (.fz d)
      | none => none
    | none => none
  | _, _ => none
theorem ixD_1 {ds} {i} : ixD (.list ds) (.int i) = match ixN ds.length i with
      | some j => match ds[j]? with
        | some d => some (.fz d)
        | none => none
      | none => none := rfl
theorem ixD_2 {ds} {i} : ixD (.tuple ds) (.int i) = match ixN ds.length i with
      | some j => match ds[j]? with
        | some d => some (.fz d)
        | none => none
      | none => none := rfl
def negD : D → Option Rt
  | .int i => some (.fz (.int (-i)))
  | _ => none
@[simp] theorem negD_1 {i} : negD (.int i) = some (.fz (.int (-i))) := (rfl)
def absD : D → Option Rt
  | .int i => some (.fz (.int (if i < 0 then -i else i)))
  | _ => none
theorem absD_1 {i} : absD (.int i) = some (.fz (.int (if i < 0 then -i else i))) := (rfl)
def lenD : D → Option Rt
  | .list ds => some (.fz (.int (ds.length : Nat)))
  | .tuple ds => some (.fz (.int (ds.length : Nat)))
  | _ => none
@[simp] theorem lenD_1 {ds} : lenD (.list ds) = some (.fz (.int (ds.length : Nat))) := (rfl)
@[simp] theorem lenD_2 {ds} : lenD (.tuple ds) = some (.fz (.int (ds.length : Nat))) := (rfl)
def intD : D → Option Rt
  | .int i => some (.fz (.int i))
  | .bool b => some (.fz (.int (if b then 1 else 0)))
  | _ => none
@[simp] theorem intD_1 {i} : intD (.int i) = some (.fz (.int i)) := (rfl)
@[simp] theorem intD_2 {b} : intD (.bool b) = some (.fz (.int (if b then 1 else 0))) := (rfl)
def listD : D → Option Rt
  | .list ds => some (.ow ds)
  | .tuple ds => some (.ow ds)
  | _ => none
@[simp] theorem listD_1 {ds} : listD (.list ds) = some (.ow ds) := (rfl)
@[simp] theorem listD_2 {ds} : listD (.tuple ds) = some (.ow ds) := (rfl)
def tupleD : D → Option Rt
  | .list ds => some (.fz (.tuple ds))
  | .tuple ds => some (.fz (.tuple ds))
  | _ => none
@[simp] theorem tupleD_1 {ds} : tupleD (.list ds) = some (.fz (.tuple ds)) := (rfl)
@[simp] theorem tupleD_2 {ds} : tupleD (.tuple ds) = some (.fz (.tuple ds)) := (rfl)
def asInts : List D → Option (List Int)
  | [] => some []
  | d :: r => match d with
    | .int i => (asInts r).map (i :: ·)
    | _ => none
def asBools : List D → Option (List Bool)
  | [] => some []
  | d :: r => match d with
    | .bool i => (asBools r).map (i :: ·)
    | _ => none
@[simp] theorem asInts_ints (ns : List Int) : asInts (ns.map PyData.int) = some ns := by
  induction ns with
  | nil => rfl
  | cons n ns ih => simp [asInts, ih]
@[simp] theorem asBools_bools (ns : List Bool) : asBools (ns.map PyData.bool) = some ns := by
  induction ns with
  | nil => rfl
  | cons n ns ih => simp [asBools, ih]
def sumD : D → Option Rt
  | .list ds => match asInts ds with
    | some ns => some (.fz (.int ns.sum))
    | none => none
  | _ => none
@[simp] theorem sumD_1 {ds} : sumD (.list ds) = match asInts ds with
      | some ns => some (.fz (.int ns.sum))
      | none => none := rfl
def allD : D → Option Rt
  | .list ds => match asBools ds with
    | some ns => some (.fz (.bool (ns.all id)))
    | none => none
  | _ => none
@[simp] theorem allD_1 {ds} : allD (.list ds) = match asBools ds with
      | some ns => some (.fz (.bool (ns.all id)))
      | none => none := rfl
def anyD : D → Option Rt
  | .list ds => match asBools ds with
    | some ns => some (.fz (.bool (ns.any id)))
    | none => none
  | _ => none
@[simp] theorem anyD_1 {ds} : anyD (.list ds) = match asBools ds with
      | some ns => some (.fz (.bool (ns.any id)))
      | none => none := rfl
def maxD : D → D → Option Rt
  | .int i, .int j => some (.fz (.int (if j > i then j else i)))
  | _, _ => none
theorem maxD_1 {i} {j} : maxD (.int i) (.int j) = some (.fz (.int (if j > i then j else i))) := (rfl)
def minD : D → D → Option Rt
  | .int i, .int j => some (.fz (.int (if j < i then j else i)))
  | _, _ => none
theorem minD_1 {i} {j} : minD (.int i) (.int j) = some (.fz (.int (if j < i then j else i))) := (rfl)
def srt (l : List Int) : List Int := l.mergeSort (fun a b => decide (a ≤ b))
def sortedD : D → Option Rt
  | .list ds => match asInts ds with
    | some ns => some (.ow ((srt ns).map PyData.int))
    | none => none
  | .tuple ds => match asInts ds with
    | some ns => some (.ow ((srt ns).map PyData.int))
    | none => none
  | _ => none
theorem sortedD_2 {ds} : sortedD (.tuple ds) = match asInts ds with
    | some ns => some (.ow ((srt ns).map PyData.int))
    | none => none := (rfl)
theorem sortedD_1 {ds} : sortedD (.list ds) = match asInts ds with
    | some ns => some (.ow ((srt ns).map PyData.int))
    | none => none := (rfl)
inductive Ty where
  | int | bool | list | tuple | str
def isiD : Ty → D → Option Rt
  | .int, .int _ => some (.fz (.bool true))
  | .int, .bool _ => some (.fz (.bool true))
  | .int, .none => some (.fz (.bool false))
  | .int, .list _ => some (.fz (.bool false))
  | .int, .tuple _ => some (.fz (.bool false))
  | .int, .str _ => some (.fz (.bool false))
  | .bool, .bool _ => some (.fz (.bool true))
  | .bool, .int _ => some (.fz (.bool false))
  | .bool, .none => some (.fz (.bool false))
  | .bool, .list _ => some (.fz (.bool false))
  | .bool, .tuple _ => some (.fz (.bool false))
  | .bool, .str _ => some (.fz (.bool false))
  | .list, .list _ => some (.fz (.bool true))
  | .list, .tuple _ => some (.fz (.bool false))
  | .list, .none => some (.fz (.bool false))
  | .list, .int _ => some (.fz (.bool false))
  | .list, .bool _ => some (.fz (.bool false))
  | .list, .str _ => some (.fz (.bool false))
  | .tuple, .tuple _ => some (.fz (.bool true))
  | .tuple, .list _ => some (.fz (.bool false))
  | .tuple, .none => some (.fz (.bool false))
  | .tuple, .int _ => some (.fz (.bool false))
  | .tuple, .bool _ => some (.fz (.bool false))
  | .tuple, .str _ => some (.fz (.bool false))
  | .str, .str _ => some (.fz (.bool true))
  | .str, .tuple _ => some (.fz (.bool false))
  | .str, .list _ => some (.fz (.bool false))
  | .str, .none => some (.fz (.bool false))
  | .str, .int _ => some (.fz (.bool false))
  | .str, .bool _ => some (.fz (.bool false))
  | _, .dict _ => none
@[simp] theorem isiD_1 {u1_0} : isiD (.int) (.int u1_0) = some (.fz (.bool true)) := (rfl)
@[simp] theorem isiD_2 {u1_0} : isiD (.int) (.bool u1_0) = some (.fz (.bool true)) := (rfl)
@[simp] theorem isiD_3  : isiD (.int) (.none) = some (.fz (.bool false)) := (rfl)
@[simp] theorem isiD_4 {u1_0} : isiD (.int) (.list u1_0) = some (.fz (.bool false)) := (rfl)
@[simp] theorem isiD_5 {u1_0} : isiD (.int) (.tuple u1_0) = some (.fz (.bool false)) := (rfl)
@[simp] theorem isiD_6 {u1_0} : isiD (.int) (.str u1_0) = some (.fz (.bool false)) := (rfl)
@[simp] theorem isiD_7 {u1_0} : isiD (.bool) (.bool u1_0) = some (.fz (.bool true)) := (rfl)
@[simp] theorem isiD_8 {u1_0} : isiD (.bool) (.int u1_0) = some (.fz (.bool false)) := (rfl)
@[simp] theorem isiD_9  : isiD (.bool) (.none) = some (.fz (.bool false)) := (rfl)
@[simp] theorem isiD_10 {u1_0} : isiD (.bool) (.list u1_0) = some (.fz (.bool false)) := (rfl)
@[simp] theorem isiD_11 {u1_0} : isiD (.bool) (.tuple u1_0) = some (.fz (.bool false)) := (rfl)
@[simp] theorem isiD_12 {u1_0} : isiD (.bool) (.str u1_0) = some (.fz (.bool false)) := (rfl)
@[simp] theorem isiD_13 {u1_0} : isiD (.list) (.list u1_0) = some (.fz (.bool true)) := (rfl)
@[simp] theorem isiD_14 {u1_0} : isiD (.list) (.tuple u1_0) = some (.fz (.bool false)) := (rfl)
@[simp] theorem isiD_15  : isiD (.list) (.none) = some (.fz (.bool false)) := (rfl)
@[simp] theorem isiD_16 {u1_0} : isiD (.list) (.int u1_0) = some (.fz (.bool false)) := (rfl)
@[simp] theorem isiD_17 {u1_0} : isiD (.list) (.bool u1_0) = some (.fz (.bool false)) := (rfl)
@[simp] theorem isiD_18 {u1_0} : isiD (.list) (.str u1_0) = some (.fz (.bool false)) := (rfl)
@[simp] theorem isiD_19 {u1_0} : isiD (.tuple) (.tuple u1_0) = some (.fz (.bool true)) := (rfl)
@[simp] theorem isiD_20 {u1_0} : isiD (.tuple) (.list u1_0) = some (.fz (.bool false)) := (rfl)
@[simp] theorem isiD_21  : isiD (.tuple) (.none) = some (.fz (.bool false)) := (rfl)
@[simp] theorem isiD_22 {u1_0} : isiD (.tuple) (.int u1_0) = some (.fz (.bool false)) := (rfl)
@[simp] theorem isiD_23 {u1_0} : isiD (.tuple) (.bool u1_0) = some (.fz (.bool false)) := (rfl)
@[simp] theorem isiD_24 {u1_0} : isiD (.tuple) (.str u1_0) = some (.fz (.bool false)) := (rfl)
@[simp] theorem isiD_25 {u1_0} : isiD (.str) (.str u1_0) = some (.fz (.bool true)) := (rfl)
@[simp] theorem isiD_26 {u1_0} : isiD (.str) (.tuple u1_0) = some (.fz (.bool false)) := (rfl)
@[simp] theorem isiD_27 {u1_0} : isiD (.str) (.list u1_0) = some (.fz (.bool false)) := (rfl)
@[simp] theorem isiD_28  : isiD (.str) (.none) = some (.fz (.bool false)) := (rfl)
@[simp] theorem isiD_29 {u1_0} : isiD (.str) (.int u1_0) = some (.fz (.bool false)) := (rfl)
@[simp] theorem isiD_30 {u1_0} : isiD (.str) (.bool u1_0) = some (.fz (.bool false)) := (rfl)
def sIx (n d : Nat) : Option Int → Nat
  | none => d
  | some v => if v < 0 then (v + (n : Int)).toNat else min v.toNat n
def cutD {α : Type} (xs : List α) (lo hi : Option Int) : List α := (xs.drop (sIx xs.length 0 lo)).take (sIx xs.length xs.length hi - sIx xs.length 0 lo)
def slD : D → Option Int → Option Int → Option Rt
  | .list ds, lo, hi => some (.ow (cutD ds lo hi))
  | .tuple ds, lo, hi => some (.fz (.tuple (cutD ds lo hi)))
  | _, _, _ => none
@[simp] theorem slD_1 {ds} {lo} {hi} : slD (.list ds) (lo) (hi) = some (.ow (cutD ds lo hi)) := (rfl)
@[simp] theorem slD_2 {ds} {lo} {hi} : slD (.tuple ds) (lo) (hi) = some (.fz (.tuple (cutD ds lo hi))) := (rfl)
def revD : D → Option Rt
  | .list ds => some (.ow ds.reverse)
  | .tuple ds => some (.fz (.tuple ds.reverse))
  | _ => none
@[simp] theorem revD_1 {ds} : revD (.list ds) = some (.ow ds.reverse) := (rfl)
@[simp] theorem revD_2 {ds} : revD (.tuple ds) = some (.fz (.tuple ds.reverse)) := (rfl)
/-! the script -/
@[simp] def eScLen (i : Nat) (env : Env) : Option (RV × Env) := match env[i]? with
  | some (.sc ds) => some (.fz (.int ds.length), env)
  | _ => none
def eScIx (i : Nat) (e : M RV) (env : Env) : Option (RV × Env) := match env[i]? with
  | some (.sc _) => match e env with
    | some (.fz (.int k), e1) => match e1[i]? with
      | some (.sc ds) => match ixN ds.length k with
        | some j => match ds[j]? with
          | some d => some (.fz d, e1)
          | none => none
        | none => none
      | _ => none
    | _ => none
  | _ => none
def eScSl (i : Nat) (lo hi : M (Option Int)) (env : Env) : Option (RV × Env) := match env[i]? with
  | some (.sc _) => match lo env with
    | none => none
    | some (l, e1) => match hi e1 with
      | none => none
      | some (h, e2) => match e2[i]? with
        | some (.sc ds) => some (.tm (cutD ds l h), e2)
        | _ => none
  | _ => none
/-! x[a], x[b] = d, e -/
def st1 (i : Nat) (ie : M RV) (d : D) (env : Env) : Option Env := match env[i]? with
  | some (.ow _) => match ie env with
    | some (.fz (.int k), e3) => match e3[i]? with
      | some (.ow ds) => match ixN ds.length k with
        | some j => some (e3.set i (.ow (ds.set j d)))
        | none => none
      | _ => none
    | _ => none
  | _ => none
def sPS (i : Nat) (ia : M RV) (j : Nat) (ib : M RV) (es : M (List D)) (env : Env) : Option Fl := match es env with
  | some ([d1, d2], e) => match st1 i ia d1 e with
    | some e1 => match st1 j ib d2 e1 with
      | some e2 => some (.nx e2)
      | none => none
    | none => none
  | _ => none
/-! range(a, b, -1) -/
def rngM (lo : Int) (n : Nat) : List D := (List.range n).map fun k => .int (lo - (k : Nat))
def itR3 (a b c : M RV) (env : Env) : Option (List D × Env) := match a env with
  | some (.fz (.int m), e1) => match b e1 with
    | some (.fz (.int n), e2) => match c e2 with
      | some (.fz (.int s), e3) => if s = -1 ∧ (-big ≤ m ∧ m < big) ∧ -big ≤ n ∧ n < big then some (rngM m (m - n).toNat, e3) else none
      | _ => none
    | _ => none
  | _ => none
/-! x in xs -/
def flt : D → Bool
  | .none => true
  | .bool _ => true
  | .int _ => true
  | .str _ => true
  | _ => false
@[simp] theorem flt_int (i : Int) : flt (.int i) = true := (rfl)
@[simp] theorem flt_bool (i : Bool) : flt (.bool i) = true := (rfl)
@[simp] theorem flt_none : flt .none = true := (rfl)
@[simp] theorem flt_str (i : Str) : flt (.str i) = true := (rfl)
def inD (d e : D) : Option Rt := match seqD e with
  | some ds => if flt d = true ∧ ds.all flt = true then some (.fz (.bool (ds.any fun x => beqD x d))) else none
  | none => none
def notInD (d e : D) : Option Rt := match seqD e with
  | some ds => if flt d = true ∧ ds.all flt = true then some (.fz (.bool (!ds.any fun x => beqD x d))) else none
  | none => none
/-! a is True -/
def isBD : D → D → Option Rt
  | .bool a, .bool b => some (.fz (.bool (a == b)))
  | _, _ => none
@[simp] theorem isBD_1 {a b} : isBD (.bool a) (.bool b) = some (.fz (.bool (a == b))) := (rfl)
def notBD : D → D → Option Rt
  | .bool a, .bool b => some (.fz (.bool (!(a == b))))
  | _, _ => none
@[simp] theorem notBD_1 {a b} : notBD (.bool a) (.bool b) = some (.fz (.bool (!(a == b)))) := (rfl)
/-! t.count(x) -/
def eCnt (a b : M RV) (env : Env) : Option (RV × Env) := match a env with
  | some (.fz (.tuple ds), e1) => match b e1 with
    | some (.fz d, e2) => if flt d = true ∧ ds.all flt = true then some (.fz (.int ((ds.countP fun x => beqD x d : Nat) : Int)), e2) else none
    | _ => none
  | _ => none
/-! x.pop(k) -/
def ePopA (i : Nat) (k : M RV) (env : Env) : Option (RV × Env) := match env[i]? with
  | some (.ow _) => match k env with
    | some (.fz (.int n), e1) => match e1[i]? with
      | some (.ow ds) => if 0 ≤ n then (match ds[n.toNat]? with
        | some d => if n < big then some (.fz d, e1.set i (.ow (ds.eraseIdx n.toNat))) else none
        | none => none) else none
      | _ => none
    | _ => none
  | _ => none
/-! str(i) -/
def strD : D → Option Rt
  | .int i => if i.natAbs < 2 ^ 1000 then some (.fz (.str (toString i))) else none
  | _ => none
/-! a < b < c -/
def tCh (g h : D → D → Option Rt) (a b c : M RV) (env : Env) : Option (Bool × Env) := match a env with
  | some (.fz (.int i), e1) => match b e1 with
    | some (.fz (.int j), e2) => match g (.int i) (.int j) with
      | some (.fz (.bool k)) => if k = true then (match c e2 with
        | some (.fz (.int l), e3) => match h (.int j) (.int l) with
          | some (.fz (.bool m)) => some (m, e3)
          | _ => none
        | _ => none) else some (false, e2)
      | _ => none
    | _ => none
  | _ => none
/-! ### things with parts -/
@[simp] def nNil (env : Env) : Option (List Ob × Env) := some ([], env)
/-- a part is moved in -/
def mvO (env : Env) : RV → Option (Ob × Env)
  | .fz d => some (.fz d, env)
  | .tm ds => some (.fl ds, env)
  | .nt o => some (o, env)
  | .sl i => match env[i]? with
    | some (.ow ds) => some (.fl ds, env.set i .no)
    | some (.nt o) => some (o, env.set i .no)
    | _ => none
def nCons (e : M RV) (r : M (List Ob)) (env : Env) : Option (List Ob × Env) := match e env with
  | none => none
  | some (x, e1) => match mvO e1 x with
    | none => none
    | some (o, e2) => match r e2 with
      | none => none
      | some (os, e3) => some (o :: os, e3)
def eNT (es : M (List Ob)) (env : Env) : Option (Ob × Env) := match es env with
  | none => none
  | some (os, e) => some (.tp os, e)
def eNL (es : M (List Ob)) (env : Env) : Option (Ob × Env) := match es env with
  | none => none
  | some (os, e) => some (.ls os, e)
def sRetO (f : M Ob) (env : Env) : Option Fl := match f env with
  | none => none
  | some (o, e) => some (.rt (.nt o) e)
def sAsgO (i : Nat) (f : M Ob) (env : Env) : Option Fl := match f env with
  | none => none
  | some (o, e) => some (.nx (e.set i (.nt o)))
/-- x = t[k]: the part is moved out, the rest forgotten -/
def sMv (i j k : Nat) (env : Env) : Option Fl := match env[j]? with
  | some (.nt (.tp its)) => match its[k]? with
    | some (.fl ds) => some (.nx ((env.set j .no).set i (.ow ds)))
    | some (.fz d) => some (.nx ((env.set j .no).set i (.fz d)))
    | some o => some (.nx ((env.set j .no).set i (.nt o)))
    | none => none
  | _ => none
/-! a call that only looks: all its arguments are lent, its result is flat -/
inductive LAr where
  | e (f : M RV) | v (i : Nat)
def evL : List LAr → Env → Option (List It × Env)
  | [], env => some ([], env)
  | .e f :: r, env => match f env with
    | none => none
    | some (x, e1) => match fzv e1 x with
      | none => none
      | some (d, e2) => match evL r e2 with
        | none => none
        | some (l, e3) => some (.d d :: l, e3)
  | .v i :: r, env => match env[i]? with
    | some .no => none
    | some (.sc _) => none
    | some _ => match evL r env with
      | none => none
      | some (l, e3) => some (.r i :: l, e3)
    | none => none
def slD' : Sl → Option D
  | .fz d => some d
  | .ow ds => some (.list ds)
  | .bw ds => some (.list ds)
  | .nt o => some (er o)
  | _ => none
def itL (env : Env) : It → Option D
  | .d d => some d
  | .r i => match env[i]? with
    | some s => slD' s
    | none => none
  | _ => none
def itLs (env : Env) : List It → Option (List D)
  | [] => some []
  | x :: r => match itL env x, itLs env r with
    | some d, some ds => some (d :: ds)
    | _, _ => none
def eCallL (F : FnS) (as : List LAr) (env : Env) : Option (RV × Env) := match evL as env with
  | none => none
  | some (l, e1) => match itLs e1 l with
    | none => none
    | some ds => match F ds with
      | some (.fz d, []) => if flt d = true then some (.fz d, e1) else none
      | _ => none
/-! t.index(x) -/
def eIdx (a b : M RV) (env : Env) : Option (RV × Env) := match a env with
  | some (.fz (.tuple ds), e1) => match b e1 with
    | some (.fz d, e2) => if flt d = true ∧ ds.all flt = true then (match ds.findIdx? (fun x => beqD x d) with
      | some j => some (.fz (.int (j : Nat)), e2)
      | none => none) else none
    | _ => none
  | _ => none
/-! a def whose first parameter is a list with parts that it changes; its result is frozen -/
abbrev FnN := List Ob → List D → Option (D × List Ob)
def mkFnN (ks : List PK) (n : Nat) (body : SM) (os : List Ob) (ds : List D) : Option (D × List Ob) := match ini ks ds with
  | none => none
  | some e0 => match body (.nt (.ls os) :: (e0 ++ List.replicate n .no)) with
    | some (.nx (.nt (.ls os') :: _)) => some (.none, os')
    | some (.rt (.fz d) (.nt (.ls os') :: _)) => some (d, os')
    | some (.rt (.ow ds) (.nt (.ls os') :: _)) => some (.list ds, os')
    | _ => none
def eCallN (F : FnN) (i : Nat) (as : List Ar) (env : Env) : Option (RV × Env) := match env[i]? with
  | some (.nt (.ls _)) => match evA as env with
    | none => none
    | some (l, e1) => match e1[i]? with
      | some (.nt (.ls os)) => match itDs e1 l with
        | none => none
        | some ds => match F os ds with
          | some (d, os') => some (.fz d, e1.set i (.nt (.ls os')))
          | none => none
      | _ => none
  | _ => none
/-- a draw from [cells, count]: what follows  cells = bag[0]; count = bag[1]; bag[1] = count + 1 -/
def mkDraw (n : Nat) (f : SM) (os : List Ob) (ds : List D) : Option (D × List Ob) := match os, ds with
  | [.fl cells, .fz (.int count)], [.int m] => match f (.no :: .fz (.int m) :: .ow cells :: .fz (.int count) :: List.replicate n .no) with
    | some (.rt (.fz d) (_ :: _ :: .ow cells' :: _)) => some (d, [.fl cells', .fz (.int (count + 1))])
    | _ => none
  | _, _ => none
/-! ### what may raise -/
/-- a statement that is never reached -/
def sNone (env : Env) : Option Fl := none
inductive Ev (α : Type) where
  | ok (a : α) (env : Env) | ex (c : EC) (env : Env)
abbrev MX (α : Type) := Env → Option (Ev α)
inductive Ox where
  | ok (r : Rt) | ex (c : EC)
abbrev FnX := List D → Option Ox
def mkFnX (ks : List PK) (n : Nat) (body : SM) (ds : List D) : Option Ox := match ini ks ds with
  | none => none
  | some e0 => match body (e0 ++ List.replicate n .no) with
    | some (.nx _) => some (.ok (.fz .none))
    | some (.rt r _) => some (.ok r)
    | some (.ex c _) => some (.ex c)
    | _ => none
def sRaise (x : Str) (env : Env) : Option Fl := some (.ex ⟨x, []⟩ env)
def eCallX (F : FnX) (as : List Ar) (env : Env) : Option (Ev RV) := match evA as env with
  | none => none
  | some (l, e1) => match itDs e1 l with
    | none => none
    | some ds => match F ds with
      | some (.ok r) => some (.ok (toRV r) e1)
      | some (.ex c) => some (.ex c e1)
      | none => none
/-- the same, where nothing is raised -/
def eCallP (F : FnX) (as : List Ar) (env : Env) : Option (RV × Env) := match evA as env with
  | none => none
  | some (l, e1) => match itDs e1 l with
    | none => none
    | some ds => match F ds with
      | some (.ok r) => some (toRV r, e1)
      | _ => none
def xLift (f : M RV) (env : Env) : Option (Ev RV) := match f env with
  | some (r, e) => some (.ok r e)
  | none => none
def xRet (f : MX RV) (env : Env) : Option Fl := match f env with
  | none => none
  | some (.ex c e) => some (.ex c e)
  | some (.ok r e) => sRet (fun _ => some (r, e)) e
def xAsg (i : Nat) (f : MX RV) (env : Env) : Option Fl := match f env with
  | none => none
  | some (.ex c e) => some (.ex c e)
  | some (.ok r e) => sAsg i (fun _ => some (r, e)) e
def xUnp (g : G) (f : MX RV) (env : Env) : Option Fl := match f env with
  | none => none
  | some (.ex c e) => some (.ex c e)
  | some (.ok r e) => sUnp g (fun _ => some (r, e)) e
def xDrop (f : MX RV) (env : Env) : Option Fl := match f env with
  | none => none
  | some (.ex c e) => some (.ex c e)
  | some (.ok _ e) => some (.nx e)
def yNil (env : Env) : Option (Ev (List D)) := some (.ok [] env)
def yCons (e : MX RV) (r : MX (List D)) (env : Env) : Option (Ev (List D)) := match e env with
  | none => none
  | some (.ex c e1) => some (.ex c e1)
  | some (.ok x e1) => match fzv e1 x with
    | none => none
    | some (d, e2) => match r e2 with
      | none => none
      | some (.ex c e3) => some (.ex c e3)
      | some (.ok ds e3) => some (.ok (d :: ds) e3)
def xTup (es : MX (List D)) (env : Env) : Option (Ev RV) := match es env with
  | none => none
  | some (.ex c e) => some (.ex c e)
  | some (.ok ds e) => some (.ok (.fz (.tuple ds)) e)
def xOp1 (g : D → Option Rt) (a : MX RV) (env : Env) : Option (Ev RV) := match a env with
  | none => none
  | some (.ex c e) => some (.ex c e)
  | some (.ok x e1) => match dr e1 x with
    | none => none
    | some d => match g d with
      | none => none
      | some r => some (.ok (toRV r) e1)
/-- try: body, except .. as the name in slot i: suite; mm tells whether the clause takes the class -/
def sTry (i : Nat) (mm : Str → Option Bool) (body : SM) (suite : EC → SM) (env : Env) : Option Fl := match body env with
  | some (.ex c e) => match mm c.nm with
    | some true => if i < e.length then (match suite c (e.set i .no) with
      | some (.nx e2) => some (.nx (e2.set i .no))
      | some (.bk e2) => some (.bk (e2.set i .no))
      | some (.ct e2) => some (.ct (e2.set i .no))
      | some (.rt r e2) => some (.rt r (e2.set i .no))
      | _ => none) else none
    | some false => some (.ex c e)
    | none => none
  | r => r
/-- isinstance(e, T) of the exception in hand -/
def eIsX (tb : Str → Option Bool) (c : EC) (env : Env) : Option (RV × Env) := match tb c.nm with
  | some b => some (.fz (.bool b), env)
  | none => none
/-- a table by names -/
def tbF : List (Str × Bool) → Str → Option Bool
  | [], _ => none
  | (x, b) :: l, nm => if nm = x then some b else tbF l nm
/-- f(*x) -/
def aStar (f : M RV) (env : Env) : Option (List D × Env) := match f env with
  | none => none
  | some (x, e1) => match fzv e1 x with
    | some (.tuple ds, e2) => if ds.length < limit then some (ds, e2) else none
    | some (.list ds, e2) => if ds.length < limit then some (ds, e2) else none
    | _ => none
end J
/-! JQ: how a reading is computed, one part at a time: no part is opened before the parts ahead of it are known. -/
namespace J
open PySem
def kR (e : Env) : Option Rt → Option (RV × Env)
  | some r => some (toRV r, e)
  | none => none
@[simp] theorem kR_1 {e : Env} {r} : kR e (some r) = some (toRV r, e) := (rfl)
@[simp] theorem kR_2 {e : Env} : kR e (none) = none := (rfl)
def kOp1b (g : D → Option Rt) (e : Env) : Option D → Option (RV × Env)
  | some d => kR e (g d)
  | none => none
@[simp] theorem kOp1b_1 {g : D → Option Rt} {e : Env} {d} : kOp1b g e (some d) = kR e (g d) := (rfl)
@[simp] theorem kOp1b_2 {g : D → Option Rt} {e : Env} : kOp1b g e (none) = none := (rfl)
def kOp1 (g : D → Option Rt) : Option (RV × Env) → Option (RV × Env)
  | some (x, e) => kOp1b g e (dr e x)
  | none => none
@[simp] theorem kOp1_1 {g : D → Option Rt} {x} {e} : kOp1 g (some (x, e)) = kOp1b g e (dr e x) := (rfl)
@[simp] theorem kOp1_2 {g : D → Option Rt} : kOp1 g (none) = none := (rfl)
@[simp] theorem q_op1 {g : D → Option Rt} {a : M RV} {env : Env} : eOp1 g a env = kOp1 g (a env) := by
  unfold eOp1
  cases a env with
  | none => rfl
  | some r =>
    obtain ⟨x, e⟩ := r
    simp only [kOp1]
    cases dr e x with
    | none => rfl
    | some d =>
      simp only [kOp1b]
      cases g d <;> rfl
def kOp2c (g : D → D → Option Rt) (e : Env) : Option D → Option D → Option (RV × Env)
  | some d, some d' => kR e (g d d')
  | _, _ => none
@[simp] theorem kOp2c_1 {g : D → D → Option Rt} {e : Env} {d} {d'} : kOp2c g e (some d) (some d') = kR e (g d d') := (rfl)
def kOp2b (g : D → D → Option Rt) (x : RV) : Option (RV × Env) → Option (RV × Env)
  | some (y, e) => kOp2c g e (dr e x) (dr e y)
  | none => none
@[simp] theorem kOp2b_1 {g : D → D → Option Rt} {x : RV} {y} {e} : kOp2b g x (some (y, e)) = kOp2c g e (dr e x) (dr e y) := (rfl)
@[simp] theorem kOp2b_2 {g : D → D → Option Rt} {x : RV} : kOp2b g x (none) = none := (rfl)
def kOp2 (g : D → D → Option Rt) (b : M RV) : Option (RV × Env) → Option (RV × Env)
  | some (x, e) => kOp2b g x (b e)
  | none => none
@[simp] theorem kOp2_1 {g : D → D → Option Rt} {b : M RV} {x} {e} : kOp2 g b (some (x, e)) = kOp2b g x (b e) := (rfl)
@[simp] theorem kOp2_2 {g : D → D → Option Rt} {b : M RV} : kOp2 g b (none) = none := (rfl)
@[simp] theorem q_op2 {g : D → D → Option Rt} {a b : M RV} {env : Env} : eOp2 g a b env = kOp2 g b (a env) := by
  unfold eOp2
  cases a env with
  | none => rfl
  | some r =>
    obtain ⟨x, e⟩ := r
    simp only [kOp2]
    cases b e with
    | none => rfl
    | some r =>
      obtain ⟨y, e2⟩ := r
      simp only [kOp2b]
      cases dr e2 x with
      | none => rfl
      | some d =>
        cases dr e2 y with
        | none => rfl
        | some d' =>
          simp only [kOp2c]
          cases g d d' <;> rfl
def kAnd (b : M RV) : Option (RV × Env) → Option (RV × Env)
  | some (.fz (.bool c), e) => if c = true then b e else some (.fz (.bool false), e)
  | _ => none
@[simp] theorem kAnd_1 {b : M RV} {c} {e} : kAnd b (some (.fz (.bool c), e)) = if c = true then b e else some (.fz (.bool false), e) := (rfl)
@[simp] theorem q_and {a b : M RV} {env : Env} : eAnd a b env = kAnd b (a env) := by
  unfold eAnd
  split
  · rename_i h; rw [h]; rfl
  · rename_i h; rw [h]; rfl
  · rename_i h1 h2
    cases q : a env with
    | none => rfl
    | some r =>
      obtain ⟨x, e⟩ := r
      cases x with
      | fz d =>
        cases d with
        | bool c =>
          cases c
          · exact absurd q (h2 e)
          · exact absurd q (h1 e)
        | _ => rfl
      | _ => rfl
def kOr (b : M RV) : Option (RV × Env) → Option (RV × Env)
  | some (.fz (.bool c), e) => if c = true then some (.fz (.bool true), e) else b e
  | _ => none
@[simp] theorem kOr_1 {b : M RV} {c} {e} : kOr b (some (.fz (.bool c), e)) = if c = true then some (.fz (.bool true), e) else b e := (rfl)
@[simp] theorem q_or {a b : M RV} {env : Env} : eOr a b env = kOr b (a env) := by
  unfold eOr
  split
  · rename_i h; rw [h]; rfl
  · rename_i h; rw [h]; rfl
  · rename_i h1 h2
    cases q : a env with
    | none => rfl
    | some r =>
      obtain ⟨x, e⟩ := r
      cases x with
      | fz d =>
        cases d with
        | bool c =>
          cases c
          · exact absurd q (h2 e)
          · exact absurd q (h1 e)
        | _ => rfl
      | _ => rfl
def kNot : Option (RV × Env) → Option (RV × Env)
  | some (.fz (.bool c), e) => some (.fz (.bool (!c)), e)
  | _ => none
@[simp] theorem kNot_1 {c} {e} : kNot (some (.fz (.bool c), e)) = some (.fz (.bool (!c)), e) := (rfl)
@[simp] theorem q_not {a : M RV} {env : Env} : eNot a env = kNot (a env) := by
  unfold eNot
  split
  · rename_i h; rw [h]; rfl
  · rename_i h1
    cases q : a env with
    | none => rfl
    | some r =>
      obtain ⟨x, e⟩ := r
      cases x with
      | fz d =>
        cases d with
        | bool c => exact absurd q (h1 c e)
        | _ => rfl
      | _ => rfl
def kIf (a b : M RV) : Option (Bool × Env) → Option (RV × Env)
  | some (c, e) => if c = true then a e else b e
  | none => none
@[simp] theorem kIf_1 {a : M RV} {b : M RV} {c} {e} : kIf a b (some (c, e)) = if c = true then a e else b e := (rfl)
@[simp] theorem kIf_2 {a : M RV} {b : M RV} : kIf a b (none) = none := (rfl)
@[simp] theorem q_if {t : M Bool} {a b : M RV} {env : Env} : eIf t a b env = kIf a b (t env) := by
  unfold eIf
  cases t env with
  | none => rfl
  | some r => obtain ⟨c, e⟩ := r; cases c <;> rfl
def kAc3 (d : D) : Option (List D × Env) → Option (List D × Env)
  | some (ds, e) => some (d :: ds, e)
  | none => none
@[simp] theorem kAc3_1 {d : D} {ds} {e} : kAc3 d (some (ds, e)) = some (d :: ds, e) := (rfl)
@[simp] theorem kAc3_2 {d : D} : kAc3 d (none) = none := (rfl)
def kAc2 (r : M (List D)) : Option (D × Env) → Option (List D × Env)
  | some (d, e) => kAc3 d (r e)
  | none => none
@[simp] theorem kAc2_1 {r : M (List D)} {d} {e} : kAc2 r (some (d, e)) = kAc3 d (r e) := (rfl)
@[simp] theorem kAc2_2 {r : M (List D)} : kAc2 r (none) = none := (rfl)
def kAc (r : M (List D)) : Option (RV × Env) → Option (List D × Env)
  | some (x, e) => kAc2 r (fzv e x)
  | none => none
@[simp] theorem kAc_1 {r : M (List D)} {x} {e} : kAc r (some (x, e)) = kAc2 r (fzv e x) := (rfl)
@[simp] theorem kAc_2 {r : M (List D)} : kAc r (none) = none := (rfl)
@[simp] theorem q_ac {e : M RV} {r : M (List D)} {env : Env} : aCons e r env = kAc r (e env) := by
  unfold aCons
  cases e env with
  | none => rfl
  | some q =>
    obtain ⟨x, e1⟩ := q
    simp only [kAc]
    cases fzv e1 x with
    | none => rfl
    | some q =>
      obtain ⟨d, e2⟩ := q
      simp only [kAc2]
      cases r e2 <;> rfl
def kTup : Option (List D × Env) → Option (RV × Env)
  | some (ds, e) => some (.fz (.tuple ds), e)
  | none => none
@[simp] theorem kTup_1 {ds} {e} : kTup (some (ds, e)) = some (.fz (.tuple ds), e) := (rfl)
@[simp] theorem kTup_2  : kTup (none) = none := (rfl)
@[simp] theorem q_tup {es : M (List D)} {env : Env} : eTup es env = kTup (es env) := by
  unfold eTup
  cases es env <;> rfl
def kLst : Option (List D × Env) → Option (RV × Env)
  | some (ds, e) => some (.tm ds, e)
  | none => none
@[simp] theorem kLst_1 {ds} {e} : kLst (some (ds, e)) = some (.tm ds, e) := (rfl)
@[simp] theorem kLst_2  : kLst (none) = none := (rfl)
@[simp] theorem q_lst {es : M (List D)} {env : Env} : eLst es env = kLst (es env) := by
  unfold eLst
  cases es env <;> rfl
/-! tests -/
def kVal : Option (RV × Env) → Option (Bool × Env)
  | some (.fz (.bool c), e) => some (c, e)
  | _ => none
@[simp] theorem kVal_1 {c} {e} : kVal (some (.fz (.bool c), e)) = some (c, e) := (rfl)
@[simp] theorem q_val {a : M RV} {env : Env} : tVal a env = kVal (a env) := by
  unfold tVal
  split
  · rename_i h; rw [h]; rfl
  · rename_i h1
    cases q : a env with
    | none => rfl
    | some r =>
      obtain ⟨x, e⟩ := r
      cases x with
      | fz d =>
        cases d with
        | bool c => exact absurd q (h1 c e)
        | _ => rfl
      | _ => rfl
def kTru3 (e : Env) : Option Bool → Option (Bool × Env)
  | some b => some (b, e)
  | none => none
@[simp] theorem kTru3_1 {e : Env} {b} : kTru3 e (some b) = some (b, e) := (rfl)
@[simp] theorem kTru3_2 {e : Env} : kTru3 e (none) = none := (rfl)
def kTru2 (e : Env) : Option D → Option (Bool × Env)
  | some d => kTru3 e (truD d)
  | none => none
@[simp] theorem kTru2_1 {e : Env} {d} : kTru2 e (some d) = kTru3 e (truD d) := (rfl)
@[simp] theorem kTru2_2 {e : Env} : kTru2 e (none) = none := (rfl)
def kTru : Option (RV × Env) → Option (Bool × Env)
  | some (x, e) => kTru2 e (dr e x)
  | none => none
@[simp] theorem kTru_1 {x} {e} : kTru (some (x, e)) = kTru2 e (dr e x) := (rfl)
@[simp] theorem kTru_2  : kTru (none) = none := (rfl)
@[simp] theorem q_tru {a : M RV} {env : Env} : tTru a env = kTru (a env) := by
  unfold tTru
  cases a env with
  | none => rfl
  | some r =>
    obtain ⟨x, e⟩ := r
    simp only [kTru]
    cases dr e x with
    | none => rfl
    | some d =>
      simp only [kTru2]
      cases truD d <;> rfl
def kTAnd (b : M Bool) : Option (Bool × Env) → Option (Bool × Env)
  | some (c, e) => if c = true then b e else some (false, e)
  | none => none
@[simp] theorem kTAnd_1 {b : M Bool} {c} {e} : kTAnd b (some (c, e)) = if c = true then b e else some (false, e) := (rfl)
@[simp] theorem kTAnd_2 {b : M Bool} : kTAnd b (none) = none := (rfl)
@[simp] theorem q_tand {a b : M Bool} {env : Env} : tAnd a b env = kTAnd b (a env) := by
  unfold tAnd
  cases a env with
  | none => rfl
  | some r => obtain ⟨c, e⟩ := r; cases c <;> rfl
def kTOr (b : M Bool) : Option (Bool × Env) → Option (Bool × Env)
  | some (c, e) => if c = true then some (true, e) else b e
  | none => none
@[simp] theorem kTOr_1 {b : M Bool} {c} {e} : kTOr b (some (c, e)) = if c = true then some (true, e) else b e := (rfl)
@[simp] theorem kTOr_2 {b : M Bool} : kTOr b (none) = none := (rfl)
@[simp] theorem q_tor {a b : M Bool} {env : Env} : tOr a b env = kTOr b (a env) := by
  unfold tOr
  cases a env with
  | none => rfl
  | some r => obtain ⟨c, e⟩ := r; cases c <;> rfl
def kTNot : Option (Bool × Env) → Option (Bool × Env)
  | some (c, e) => some (!c, e)
  | none => none
@[simp] theorem kTNot_1 {c} {e} : kTNot (some (c, e)) = some (!c, e) := (rfl)
@[simp] theorem kTNot_2  : kTNot (none) = none := (rfl)
@[simp] theorem q_tnot {a : M Bool} {env : Env} : tNot a env = kTNot (a env) := by
  unfold tNot
  cases a env with
  | none => rfl
  | some r => rfl
def kSo : Option (RV × Env) → Option (Option Int × Env)
  | some (.fz (.int i), e) => some (some i, e)
  | _ => none
@[simp] theorem kSo_1 {i} {e} : kSo (some (.fz (.int i), e)) = some (some i, e) := (rfl)
@[simp] theorem q_so {a : M RV} {env : Env} : oSo a env = kSo (a env) := by
  unfold oSo
  split
  · rename_i h; rw [h]; rfl
  · rename_i h1
    cases q : a env with
    | none => rfl
    | some r =>
      obtain ⟨x, e⟩ := r
      cases x with
      | fz d =>
        cases d with
        | int c => exact absurd q (h1 c e)
        | _ => rfl
      | _ => rfl
def kSl4 (g : D → Option Int → Option Int → Option Rt) (e : Env) (l h : Option Int) : Option D → Option (RV × Env)
  | some d => kR e (g d l h)
  | none => none
@[simp] theorem kSl4_1 {g : D → Option Int → Option Int → Option Rt} {e : Env} {l : Option Int} {h : Option Int} {d} : kSl4 g e l h (some d) = kR e (g d l h) := (rfl)
@[simp] theorem kSl4_2 {g : D → Option Int → Option Int → Option Rt} {e : Env} {l : Option Int} {h : Option Int} : kSl4 g e l h (none) = none := (rfl)
def kSl3 (g : D → Option Int → Option Int → Option Rt) (x : RV) (l : Option Int) : Option (Option Int × Env) → Option (RV × Env)
  | some (h, e) => kSl4 g e l h (dr e x)
  | none => none
@[simp] theorem kSl3_1 {g : D → Option Int → Option Int → Option Rt} {x : RV} {l : Option Int} {h} {e} : kSl3 g x l (some (h, e)) = kSl4 g e l h (dr e x) := (rfl)
@[simp] theorem kSl3_2 {g : D → Option Int → Option Int → Option Rt} {x : RV} {l : Option Int} : kSl3 g x l (none) = none := (rfl)
def kSl2 (g : D → Option Int → Option Int → Option Rt) (hi : M (Option Int)) (x : RV) : Option (Option Int × Env) → Option (RV × Env)
  | some (l, e) => kSl3 g x l (hi e)
  | none => none
@[simp] theorem kSl2_1 {g : D → Option Int → Option Int → Option Rt} {hi : M (Option Int)} {x : RV} {l} {e} : kSl2 g hi x (some (l, e)) = kSl3 g x l (hi e) := (rfl)
@[simp] theorem kSl2_2 {g : D → Option Int → Option Int → Option Rt} {hi : M (Option Int)} {x : RV} : kSl2 g hi x (none) = none := (rfl)
def kSl (g : D → Option Int → Option Int → Option Rt) (lo hi : M (Option Int)) : Option (RV × Env) → Option (RV × Env)
  | some (x, e) => kSl2 g hi x (lo e)
  | none => none
@[simp] theorem kSl_1 {g : D → Option Int → Option Int → Option Rt} {lo : M (Option Int)} {hi : M (Option Int)} {x} {e} : kSl g lo hi (some (x, e)) = kSl2 g hi x (lo e) := (rfl)
@[simp] theorem kSl_2 {g : D → Option Int → Option Int → Option Rt} {lo : M (Option Int)} {hi : M (Option Int)} : kSl g lo hi (none) = none := (rfl)
@[simp] theorem q_sl {g : D → Option Int → Option Int → Option Rt} {a : M RV} {lo hi : M (Option Int)} {env : Env} : eSl g a lo hi env = kSl g lo hi (a env) := by
  unfold eSl
  cases a env with
  | none => rfl
  | some r =>
    obtain ⟨x, e⟩ := r
    simp only [kSl]
    cases lo e with
    | none => rfl
    | some r =>
      obtain ⟨l, e2⟩ := r
      simp only [kSl2]
      cases hi e2 with
      | none => rfl
      | some r =>
        obtain ⟨h, e3⟩ := r
        simp only [kSl3]
        cases dr e3 x with
        | none => rfl
        | some d =>
          simp only [kSl4]
          cases g d l h <;> rfl
/-! statements -/
def kSeq (b : SM) : Option Fl → Option Fl
  | some (.nx e) => b e
  | some (.bk e) => some (.bk e)
  | some (.ct e) => some (.ct e)
  | some (.rt r e) => some (.rt r e)
  | some (.ex c e) => some (.ex c e)
  | none => none
@[simp] theorem kSeq_1 {b : SM} {e} : kSeq b (some (.nx e)) = b e := (rfl)
@[simp] theorem kSeq_2 {b : SM} {e} : kSeq b (some (.bk e)) = some (.bk e) := (rfl)
@[simp] theorem kSeq_3 {b : SM} {e} : kSeq b (some (.ct e)) = some (.ct e) := (rfl)
@[simp] theorem kSeq_4 {b : SM} {r} {e} : kSeq b (some (.rt r e)) = some (.rt r e) := (rfl)
@[simp] theorem kSeq_6 {b : SM} {c} {e} : kSeq b (some (.ex c e)) = some (.ex c e) := (rfl)
@[simp] theorem kSeq_5 {b : SM} : kSeq b (none) = none := (rfl)
@[simp] theorem q_seq {a b : SM} {env : Env} : sSeq a b env = kSeq b (a env) := by
  unfold sSeq
  cases a env with
  | none => rfl
  | some r => cases r <;> rfl
def kAsg (i : Nat) : Option (RV × Env) → Option Fl
  | some (.fz d, e) => some (.nx (e.set i (.fz d)))
  | some (.tm ds, e) => some (.nx (e.set i (.ow ds)))
  | some (.nt o, e) => some (.nx (e.set i (.nt o)))
  | some (.sl j, e) => match fzv e (.sl j) with
    | none => none
    | some (d, e2) => some (.nx (e2.set i (.fz d)))
  | none => none
@[simp] theorem kAsg_1 {i : Nat} {d} {e} : kAsg i (some (.fz d, e)) = some (.nx (e.set i (.fz d))) := (rfl)
@[simp] theorem kAsg_2 {i : Nat} {ds} {e} : kAsg i (some (.tm ds, e)) = some (.nx (e.set i (.ow ds))) := (rfl)
@[simp] theorem kAsg_3 {i : Nat} {j} {e} : kAsg i (some (.sl j, e)) = match fzv e (.sl j) with
      | none => none
      | some (d, e2) => some (.nx (e2.set i (.fz d))) := (rfl)
@[simp] theorem kAsg_5 {i : Nat} {o} {e} : kAsg i (some (.nt o, e)) = some (.nx (e.set i (.nt o))) := (rfl)
@[simp] theorem kAsg_4 {i : Nat} : kAsg i (none) = none := (rfl)
@[simp] theorem q_asg {i : Nat} {a : M RV} {env : Env} : sAsg i a env = kAsg i (a env) := by
  unfold sAsg
  cases a env with
  | none => rfl
  | some r =>
    obtain ⟨x, e⟩ := r
    cases x <;> rfl
def kDrop : Option (RV × Env) → Option Fl
  | some (_, e) => some (.nx e)
  | none => none
@[simp] theorem kDrop_1 {u0_0} {e} : kDrop (some (u0_0, e)) = some (.nx e) := (rfl)
@[simp] theorem kDrop_2  : kDrop (none) = none := (rfl)
@[simp] theorem q_drop {a : M RV} {env : Env} : sDrop a env = kDrop (a env) := by
  unfold sDrop
  cases a env <;> rfl
def kSIf (a b : SM) : Option (Bool × Env) → Option Fl
  | some (c, e) => if c = true then a e else b e
  | none => none
@[simp] theorem kSIf_1 {a : SM} {b : SM} {c} {e} : kSIf a b (some (c, e)) = if c = true then a e else b e := (rfl)
@[simp] theorem kSIf_2 {a : SM} {b : SM} : kSIf a b (none) = none := (rfl)
@[simp] theorem q_sif {t : M Bool} {a b : SM} {env : Env} : sIf t a b env = kSIf a b (t env) := by
  unfold sIf
  cases t env with
  | none => rfl
  | some r => obtain ⟨c, e⟩ := r; cases c <;> rfl
def kRetS (i : Nat) (e : Env) : Option Sl → Option Fl
  | some (.fz d) => some (.rt (.fz d) e)
  | some (.ow ds) => some (.rt (.ow ds) (e.set i .no))
  | some (.nt o) => some (.rt (.nt o) (e.set i .no))
  | _ => none
@[simp] theorem kRetS_3 {i : Nat} {e : Env} {o} : kRetS i e (some (.nt o)) = some (.rt (.nt o) (e.set i .no)) := (rfl)
@[simp] theorem kRetS_1 {i : Nat} {e : Env} {d} : kRetS i e (some (.fz d)) = some (.rt (.fz d) e) := (rfl)
@[simp] theorem kRetS_2 {i : Nat} {e : Env} {ds} : kRetS i e (some (.ow ds)) = some (.rt (.ow ds) (e.set i .no)) := (rfl)
def kRet : Option (RV × Env) → Option Fl
  | some (.fz d, e) => some (.rt (.fz d) e)
  | some (.tm ds, e) => some (.rt (.ow ds) e)
  | some (.nt o, e) => some (.rt (.nt o) e)
  | some (.sl i, e) => kRetS i e (e[i]?)
  | none => none
@[simp] theorem kRet_1 {d} {e} : kRet (some (.fz d, e)) = some (.rt (.fz d) e) := (rfl)
@[simp] theorem kRet_2 {ds} {e} : kRet (some (.tm ds, e)) = some (.rt (.ow ds) e) := (rfl)
@[simp] theorem kRet_3 {i} {e} : kRet (some (.sl i, e)) = kRetS i e (e[i]?) := (rfl)
@[simp] theorem kRet_5 {o} {e} : kRet (some (.nt o, e)) = some (.rt (.nt o) e) := (rfl)
@[simp] theorem kRet_4  : kRet (none) = none := (rfl)
@[simp] theorem q_ret {a : M RV} {env : Env} : sRet a env = kRet (a env) := by
  unfold sRet
  cases a env with
  | none => rfl
  | some r =>
    obtain ⟨x, e⟩ := r
    cases x with
    | sl i =>
      simp only [kRet]
      cases e[i]? with
      | none => rfl
      | some s => cases s <;> rfl
    | _ => rfl
def kApp3 (i : Nat) (d : D) (e : Env) : Option Sl → Option Fl
  | some (.ow ds) => if ds.length < limit then some (.nx (e.set i (.ow (ds ++ [d])))) else none
  | _ => none
theorem kApp3_1 {i : Nat} {d : D} {e : Env} {ds} : kApp3 i d e (some (.ow ds)) = if ds.length < limit then some (.nx (e.set i (.ow (ds ++ [d])))) else none := (rfl)
def kApp2 (i : Nat) : Option (D × Env) → Option Fl
  | some (d, e) => kApp3 i d e (e[i]?)
  | none => none
@[simp] theorem kApp2_1 {i : Nat} {d} {e} : kApp2 i (some (d, e)) = kApp3 i d e (e[i]?) := (rfl)
@[simp] theorem kApp2_2 {i : Nat} : kApp2 i (none) = none := (rfl)
def kApp1 (i : Nat) : Option (RV × Env) → Option Fl
  | some (x, e) => kApp2 i (fzv e x)
  | none => none
@[simp] theorem kApp1_1 {i : Nat} {x} {e} : kApp1 i (some (x, e)) = kApp2 i (fzv e x) := (rfl)
@[simp] theorem kApp1_2 {i : Nat} : kApp1 i (none) = none := (rfl)
def kApp (i : Nat) (a : M RV) (env : Env) : Option Sl → Option Fl
  | some (.ow _) => kApp1 i (a env)
  | _ => none
@[simp] theorem kApp_1 {i : Nat} {a : M RV} {env : Env} {u0_0} : kApp i a env (some (.ow u0_0)) = kApp1 i (a env) := (rfl)
@[simp] theorem q_app {i : Nat} {a : M RV} {env : Env} : sApp i a env = kApp i a env (env[i]?) := by
  unfold sApp
  cases env[i]? with
  | none => rfl
  | some s =>
    cases s with
    | ow _ =>
      simp only [kApp]
      cases a env with
      | none => rfl
      | some r =>
        obtain ⟨x, e⟩ := r
        simp only [kApp1]
        cases fzv e x with
        | none => rfl
        | some r =>
          obtain ⟨d, e2⟩ := r
          simp only [kApp2]
          cases e2[i]? with
          | none => rfl
          | some s => cases s <;> rfl
    | _ => rfl
def kExt3 (i : Nat) (es : List D) (e : Env) : Option Sl → Option Fl
  | some (.ow ds) => if ds.length + es.length ≤ limit then some (.nx (e.set i (.ow (ds ++ es)))) else none
  | _ => none
theorem kExt3_1 {i : Nat} {es : List D} {e : Env} {ds} : kExt3 i es e (some (.ow ds)) = if ds.length + es.length ≤ limit then some (.nx (e.set i (.ow (ds ++ es)))) else none := (rfl)
def kExt2 (i : Nat) (e : Env) : Option D → Option Fl
  | some (.list es) => kExt3 i es e (e[i]?)
  | _ => none
@[simp] theorem kExt2_1 {i : Nat} {e : Env} {es} : kExt2 i e (some (.list es)) = kExt3 i es e (e[i]?) := (rfl)
def kExt1 (i : Nat) : Option (RV × Env) → Option Fl
  | some (x, e) => kExt2 i e (dr e x)
  | none => none
@[simp] theorem kExt1_1 {i : Nat} {x} {e} : kExt1 i (some (x, e)) = kExt2 i e (dr e x) := (rfl)
@[simp] theorem kExt1_2 {i : Nat} : kExt1 i (none) = none := (rfl)
def kExt (i : Nat) (a : M RV) (env : Env) : Option Sl → Option Fl
  | some (.ow _) => kExt1 i (a env)
  | _ => none
@[simp] theorem kExt_1 {i : Nat} {a : M RV} {env : Env} {u0_0} : kExt i a env (some (.ow u0_0)) = kExt1 i (a env) := (rfl)
@[simp] theorem q_extl {i : Nat} {a : M RV} {env : Env} : sExtL i a env = kExt i a env (env[i]?) := by
  unfold sExtL
  cases env[i]? with
  | none => rfl
  | some s =>
    cases s with
    | ow _ =>
      simp only [kExt]
      cases a env with
      | none => rfl
      | some r =>
        obtain ⟨x, e⟩ := r
        simp only [kExt1]
        cases dr e x with
        | none => rfl
        | some d =>
          cases d with
          | list es =>
            simp only [kExt2]
            cases e[i]? with
            | none => rfl
            | some s => cases s <;> rfl
          | _ => rfl
    | _ => rfl
def kExtA3 (i : Nat) (es : List D) (e : Env) : Option Sl → Option Fl
  | some (.ow ds) => if ds.length + es.length ≤ limit then some (.nx (e.set i (.ow (ds ++ es)))) else none
  | _ => none
theorem kExtA3_1 {i : Nat} {es : List D} {e : Env} {ds} : kExtA3 i es e (some (.ow ds)) = if ds.length + es.length ≤ limit then some (.nx (e.set i (.ow (ds ++ es)))) else none := (rfl)
def kExtA2 (i : Nat) (e : Env) : Option D → Option Fl
  | some (.list es) => kExtA3 i es e (e[i]?)
  | some (.tuple es) => kExtA3 i es e (e[i]?)
  | _ => none
@[simp] theorem kExtA2_1 {i : Nat} {e : Env} {es} : kExtA2 i e (some (.list es)) = kExtA3 i es e (e[i]?) := (rfl)
@[simp] theorem kExtA2_2 {i : Nat} {e : Env} {es} : kExtA2 i e (some (.tuple es)) = kExtA3 i es e (e[i]?) := (rfl)
def kExtA1 (i : Nat) : Option (RV × Env) → Option Fl
  | some (x, e) => kExtA2 i e (dr e x)
  | none => none
@[simp] theorem kExtA1_1 {i : Nat} {x} {e} : kExtA1 i (some (x, e)) = kExtA2 i e (dr e x) := (rfl)
def kExtA (i : Nat) (a : M RV) (env : Env) : Option Sl → Option Fl
  | some (.ow _) => kExtA1 i (a env)
  | _ => none
@[simp] theorem kExtA_1 {i : Nat} {a : M RV} {env : Env} {ds} : kExtA i a env (some (.ow ds)) = kExtA1 i (a env) := (rfl)
@[simp] theorem q_ext {i : Nat} {a : M RV} {env : Env} : sExt i a env = kExtA i a env (env[i]?) := by
  unfold sExt
  cases env[i]? with
  | none => rfl
  | some s =>
    cases s with
    | ow _ =>
      simp only [kExtA]
      cases a env with
      | none => rfl
      | some r =>
        obtain ⟨x, e⟩ := r
        simp only [kExtA1]
        cases dr e x with
        | none => rfl
        | some d =>
          cases d with
          | list es =>
            simp only [kExtA2, seqD]
            cases e[i]? with
            | none => rfl
            | some s => cases s <;> rfl
          | tuple es =>
            simp only [kExtA2, seqD]
            cases e[i]? with
            | none => rfl
            | some s => cases s <;> rfl
          | _ => rfl
    | _ => rfl
def kAug1 (i : Nat) (g : Int → Int → Int) (a : Int) : Option (RV × Env) → Option Fl
  | some (.fz (.int b), e) => some (.nx (e.set i (.fz (.int (g a b)))))
  | _ => none
@[simp] theorem kAug1_1 {i : Nat} {g : Int → Int → Int} {a : Int} {b} {e} : kAug1 i g a (some (.fz (.int b), e)) = some (.nx (e.set i (.fz (.int (g a b))))) := (rfl)
def kAug (i : Nat) (g : Int → Int → Int) (a : M RV) (env : Env) : Option Sl → Option Fl
  | some (.fz (.int n)) => kAug1 i g n (a env)
  | _ => none
@[simp] theorem kAug_1 {i : Nat} {g : Int → Int → Int} {a : M RV} {env : Env} {n} : kAug i g a env (some (.fz (.int n))) = kAug1 i g n (a env) := (rfl)
@[simp] theorem q_aug {i : Nat} {g : Int → Int → Int} {a : M RV} {env : Env} : sAug i g a env = kAug i g a env (env[i]?) := by
  unfold sAug
  cases env[i]? with
  | none => rfl
  | some s =>
    cases s with
    | fz d =>
      cases d with
      | int n =>
        simp only [kAug]
        cases a env with
        | none => rfl
        | some r =>
          obtain ⟨x, e⟩ := r
          cases x with
          | fz d => cases d <;> rfl
          | _ => rfl
      | _ => rfl
    | _ => rfl
def kSet5 (i : Nat) (d : D) (e : Env) (ds : List D) : Option Nat → Option Fl
  | some j => some (.nx (e.set i (.ow (ds.set j d))))
  | none => none
@[simp] theorem kSet5_1 {i : Nat} {d : D} {e : Env} {ds : List D} {j} : kSet5 i d e ds (some j) = some (.nx (e.set i (.ow (ds.set j d)))) := (rfl)
@[simp] theorem kSet5_2 {i : Nat} {d : D} {e : Env} {ds : List D} : kSet5 i d e ds (none) = none := (rfl)
def kSet4 (i : Nat) (d : D) (e : Env) (k : Int) : Option Sl → Option Fl
  | some (.ow ds) => kSet5 i d e ds (ixN ds.length k)
  | _ => none
@[simp] theorem kSet4_1 {i : Nat} {d : D} {e : Env} {k : Int} {ds} : kSet4 i d e k (some (.ow ds)) = kSet5 i d e ds (ixN ds.length k) := (rfl)
def kSet3 (i : Nat) (d : D) : Option (RV × Env) → Option Fl
  | some (.fz (.int k), e) => kSet4 i d e k (e[i]?)
  | _ => none
@[simp] theorem kSet3_1 {i : Nat} {d : D} {k} {e} : kSet3 i d (some (.fz (.int k), e)) = kSet4 i d e k (e[i]?) := (rfl)
def kSet2 (i : Nat) (ie : M RV) (d : D) (e : Env) : Option Sl → Option Fl
  | some (.ow _) => kSet3 i d (ie e)
  | _ => none
@[simp] theorem kSet2_1 {i : Nat} {ie : M RV} {d : D} {e : Env} {u0_0} : kSet2 i ie d e (some (.ow u0_0)) = kSet3 i d (ie e) := (rfl)
def kSet1 (i : Nat) (ie : M RV) : Option (D × Env) → Option Fl
  | some (d, e) => kSet2 i ie d e (e[i]?)
  | none => none
@[simp] theorem kSet1_1 {i : Nat} {ie : M RV} {d} {e} : kSet1 i ie (some (d, e)) = kSet2 i ie d e (e[i]?) := (rfl)
@[simp] theorem kSet1_2 {i : Nat} {ie : M RV} : kSet1 i ie (none) = none := (rfl)
def kSet (i : Nat) (ie : M RV) : Option (RV × Env) → Option Fl
  | some (x, e) => kSet1 i ie (fzv e x)
  | none => none
@[simp] theorem kSet_1 {i : Nat} {ie : M RV} {x} {e} : kSet i ie (some (x, e)) = kSet1 i ie (fzv e x) := (rfl)
@[simp] theorem kSet_2 {i : Nat} {ie : M RV} : kSet i ie (none) = none := (rfl)
@[simp] theorem q_set {i : Nat} {ie a : M RV} {env : Env} : sSet i ie a env = kSet i ie (a env) := by
  unfold sSet
  cases a env with
  | none => rfl
  | some r =>
    obtain ⟨x, e⟩ := r
    simp only [kSet]
    cases fzv e x with
    | none => rfl
    | some r =>
      obtain ⟨d, e2⟩ := r
      simp only [kSet1]
      cases e2[i]? with
      | none => rfl
      | some s =>
        cases s with
        | ow _ =>
          simp only [kSet2]
          cases ie e2 with
          | none => rfl
          | some r =>
            obtain ⟨y, e3⟩ := r
            cases y with
            | fz y =>
              cases y with
              | int k =>
                simp only [kSet3]
                cases e3[i]? with
                | none => rfl
                | some s =>
                  cases s with
                  | ow ds =>
                    simp only [kSet4]
                    cases ixN ds.length k <;> rfl
                  | _ => rfl
              | _ => rfl
            | _ => rfl
        | _ => rfl
def kGl (r : GL) (ds : List D) : Option Env → Option Env
  | some e => r ds e
  | none => none
@[simp] theorem kGl_1 {r : GL} {ds : List D} {e} : kGl r ds (some e) = r ds e := (rfl)
@[simp] theorem kGl_2 {r : GL} {ds : List D} : kGl r ds (none) = none := (rfl)
@[simp] theorem q_gl {g : G} {r : GL} {d : D} {ds : List D} {env : Env} : glCons g r (d :: ds) env = kGl r ds (g d env) := by
  show (match g d env with | some e1 => r ds e1 | none => none) = _
  cases g d env <;> rfl
def kUnp3 : Option Env → Option Fl
  | some e => some (.nx e)
  | none => none
@[simp] theorem kUnp3_1 {e} : kUnp3 (some e) = some (.nx e) := (rfl)
@[simp] theorem kUnp3_2  : kUnp3 (none) = none := (rfl)
def kUnp2 (g : G) : Option (D × Env) → Option Fl
  | some (d, e) => kUnp3 (g d e)
  | none => none
@[simp] theorem kUnp2_1 {g : G} {d} {e} : kUnp2 g (some (d, e)) = kUnp3 (g d e) := (rfl)
@[simp] theorem kUnp2_2 {g : G} : kUnp2 g (none) = none := (rfl)
def kUnp (g : G) : Option (RV × Env) → Option Fl
  | some (x, e) => kUnp2 g (fzv e x)
  | none => none
@[simp] theorem kUnp_1 {g : G} {x} {e} : kUnp g (some (x, e)) = kUnp2 g (fzv e x) := (rfl)
@[simp] theorem kUnp_2 {g : G} : kUnp g (none) = none := (rfl)
@[simp] theorem q_unp {g : G} {a : M RV} {env : Env} : sUnp g a env = kUnp g (a env) := by
  unfold sUnp
  cases a env with
  | none => rfl
  | some r =>
    obtain ⟨x, e⟩ := r
    simp only [kUnp]
    cases fzv e x with
    | none => rfl
    | some r =>
      obtain ⟨d, e2⟩ := r
      simp only [kUnp2]
      cases g d e2 <;> rfl
def kPar2 : Option Env → Option Fl
  | some e => some (.nx e)
  | none => none
@[simp] theorem kPar2_1 {e} : kPar2 (some e) = some (.nx e) := (rfl)
def kPar (is : List Nat) : Option (List D × Env) → Option Fl
  | some (ds, e) => kPar2 (setF is ds e)
  | none => none
@[simp] theorem kPar_1 {is : List Nat} {ds} {e} : kPar is (some (ds, e)) = kPar2 (setF is ds e) := (rfl)
@[simp] theorem q_par {is : List Nat} {es : M (List D)} {env : Env} : sPar is es env = kPar is (es env) := by
  unfold sPar
  cases es env with
  | none => rfl
  | some r =>
    obtain ⟨ds, e⟩ := r
    simp only [kPar]
    cases setF is ds e <;> rfl
/-! loops -/
def kFor (er : List Nat) (g : G) (body : SM) : Option (List D × Env) → Option Fl
  | some (ds, e) => runFor g body er ds (ers er e)
  | none => none
@[simp] theorem kFor_1 {er : List Nat} {g : G} {body : SM} {ds} {e} : kFor er g body (some (ds, e)) = runFor g body er ds (ers er e) := (rfl)
@[simp] theorem kFor_2 {er : List Nat} {g : G} {body : SM} : kFor er g body (none) = none := (rfl)
@[simp] theorem q_for {er : List Nat} {g : G} {it : M (List D)} {body : SM} {env : Env} : sFor er g it body env = kFor er g body (it env) := by
  unfold sFor
  cases it env <;> rfl
def kRf2 (g : G) (body : SM) (er : List Nat) (ds : List D) : Option Fl → Option Fl
  | some (.nx e) => runFor g body er ds (ers er e)
  | some (.ct e) => runFor g body er ds (ers er e)
  | some (.bk e) => some (.nx (ers er e))
  | some (.rt r e) => some (.rt r e)
  | some (.ex c e) => some (.ex c e)
  | none => none
@[simp] theorem kRf2_1 {g : G} {body : SM} {er : List Nat} {ds : List D} {e} : kRf2 g body er ds (some (.nx e)) = runFor g body er ds (ers er e) := (rfl)
@[simp] theorem kRf2_2 {g : G} {body : SM} {er : List Nat} {ds : List D} {e} : kRf2 g body er ds (some (.ct e)) = runFor g body er ds (ers er e) := (rfl)
@[simp] theorem kRf2_3 {g : G} {body : SM} {er : List Nat} {ds : List D} {e} : kRf2 g body er ds (some (.bk e)) = some (.nx (ers er e)) := (rfl)
@[simp] theorem kRf2_6 {g : G} {body : SM} {er : List Nat} {ds : List D} {c} {e} : kRf2 g body er ds (some (.ex c e)) = some (.ex c e) := (rfl)
@[simp] theorem kRf2_4 {g : G} {body : SM} {er : List Nat} {ds : List D} {r} {e} : kRf2 g body er ds (some (.rt r e)) = some (.rt r e) := (rfl)
@[simp] theorem kRf2_5 {g : G} {body : SM} {er : List Nat} {ds : List D} : kRf2 g body er ds (none) = none := (rfl)
def kRf1 (g : G) (body : SM) (er : List Nat) (ds : List D) : Option Env → Option Fl
  | some e => kRf2 g body er ds (body e)
  | none => none
@[simp] theorem kRf1_1 {g : G} {body : SM} {er : List Nat} {ds : List D} {e} : kRf1 g body er ds (some e) = kRf2 g body er ds (body e) := (rfl)
@[simp] theorem kRf1_2 {g : G} {body : SM} {er : List Nat} {ds : List D} : kRf1 g body er ds (none) = none := (rfl)
theorem for_nil {g : G} {body : SM} {er : List Nat} {env : Env} : runFor g body er [] env = some (.nx env) := (rfl)
theorem for_cons {g : G} {body : SM} {er : List Nat} {d : D} {ds : List D} {env : Env} : runFor g body er (d :: ds) env = kRf1 g body er ds (g d env) := by
  unfold runFor
  cases g d env with
  | none => rfl
  | some e =>
    simp only [kRf1]
    cases body e with
    | none => rfl
    | some fl => cases fl <;> rfl
def kRw2 (t : M Bool) (body : SM) (er : List Nat) (n : Nat) : Option Fl → Option Fl
  | some (.nx e) => runWhile t body er n (ers er e)
  | some (.ct e) => runWhile t body er n (ers er e)
  | some (.bk e) => some (.nx (ers er e))
  | some (.rt r e) => some (.rt r e)
  | some (.ex c e) => some (.ex c e)
  | none => none
@[simp] theorem kRw2_1 {t : M Bool} {body : SM} {er : List Nat} {n : Nat} {e} : kRw2 t body er n (some (.nx e)) = runWhile t body er n (ers er e) := (rfl)
@[simp] theorem kRw2_2 {t : M Bool} {body : SM} {er : List Nat} {n : Nat} {e} : kRw2 t body er n (some (.ct e)) = runWhile t body er n (ers er e) := (rfl)
@[simp] theorem kRw2_3 {t : M Bool} {body : SM} {er : List Nat} {n : Nat} {e} : kRw2 t body er n (some (.bk e)) = some (.nx (ers er e)) := (rfl)
@[simp] theorem kRw2_6 {t : M Bool} {body : SM} {er : List Nat} {n : Nat} {c} {e} : kRw2 t body er n (some (.ex c e)) = some (.ex c e) := (rfl)
@[simp] theorem kRw2_4 {t : M Bool} {body : SM} {er : List Nat} {n : Nat} {r} {e} : kRw2 t body er n (some (.rt r e)) = some (.rt r e) := (rfl)
@[simp] theorem kRw2_5 {t : M Bool} {body : SM} {er : List Nat} {n : Nat} : kRw2 t body er n (none) = none := (rfl)
def kRw1 (t : M Bool) (body : SM) (er : List Nat) (n : Nat) : Option (Bool × Env) → Option Fl
  | some (c, e) => if c = true then kRw2 t body er n (body e) else some (.nx e)
  | none => none
@[simp] theorem kRw1_1 {t : M Bool} {body : SM} {er : List Nat} {n : Nat} {c} {e} : kRw1 t body er n (some (c, e)) = if c = true then kRw2 t body er n (body e) else some (.nx e) := (rfl)
@[simp] theorem kRw1_2 {t : M Bool} {body : SM} {er : List Nat} {n : Nat} : kRw1 t body er n (none) = none := (rfl)
theorem while_succ {t : M Bool} {body : SM} {er : List Nat} {n : Nat} {env : Env} : runWhile t body er (n + 1) env = kRw1 t body er n (t env) := by
  unfold runWhile
  cases t env with
  | none => rfl
  | some r =>
    obtain ⟨c, e⟩ := r
    cases c with
    | false => rfl
    | true =>
      simp only [kRw1, if_true]
      cases body e with
      | none => rfl
      | some fl => cases fl <;> rfl
@[simp] theorem q_while {n : Nat} {er : List Nat} {t : M Bool} {body : SM} {env : Env} : sWhile n er t body env = runWhile t body er n (ers er env) := (rfl)
def kIt3 : Option (D × Env) → Option (List D × Env)
  | some (.list ds, e) => some (ds, e)
  | some (.tuple ds, e) => some (ds, e)
  | _ => none
@[simp] theorem kIt3_1 {ds} {e} : kIt3 (some (.list ds, e)) = some (ds, e) := (rfl)
@[simp] theorem kIt3_2 {ds} {e} : kIt3 (some (.tuple ds, e)) = some (ds, e) := (rfl)
def kIt2 (e : Env) (x : RV) : Option (List D) → Option (List D × Env)
  | some ds => some (ds, e)
  | none => kIt3 (fzv e x)
@[simp] theorem kIt2_1 {e : Env} {x : RV} {ds} : kIt2 e x (some ds) = some (ds, e) := (rfl)
@[simp] theorem kIt2_2 {e : Env} {x : RV} : kIt2 e x (none) = kIt3 (fzv e x) := (rfl)
def kIt : Option (RV × Env) → Option (List D × Env)
  | some (x, e) => kIt2 e x (bwOf e x)
  | none => none
@[simp] theorem kIt_1 {x} {e} : kIt (some (x, e)) = kIt2 e x (bwOf e x) := (rfl)
@[simp] theorem kIt_2  : kIt (none) = none := (rfl)
@[simp] theorem q_itseq {a : M RV} {env : Env} : itSeq a env = kIt (a env) := by
  unfold itSeq
  cases a env with
  | none => rfl
  | some r =>
    obtain ⟨x, e⟩ := r
    simp only [kIt]
    cases bwOf e x with
    | some ds => rfl
    | none =>
      simp only [kIt2]
      cases fzv e x with
      | none => rfl
      | some r =>
        obtain ⟨d, e2⟩ := r
        cases d <;> rfl
def kR1 : Option (RV × Env) → Option (List D × Env)
  | some (.fz (.int n), e) => if -big ≤ n ∧ n < big then some (rngD 0 n.toNat, e) else none
  | _ => none
theorem kR1_1 {n} {e} : kR1 (some (.fz (.int n), e)) = if -big ≤ n ∧ n < big then some (rngD 0 n.toNat, e) else none := (rfl)
@[simp] theorem q_r1 {a : M RV} {env : Env} : itR1 a env = kR1 (a env) := by
  unfold itR1
  split
  · rename_i h; rw [h]; rfl
  · rename_i h1
    cases q : a env with
    | none => rfl
    | some r =>
      obtain ⟨x, e⟩ := r
      cases x with
      | fz d =>
        cases d with
        | int c => exact absurd q (h1 c e)
        | _ => rfl
      | _ => rfl
def kR2b (m : Int) : Option (RV × Env) → Option (List D × Env)
  | some (.fz (.int n), e) => if (-big ≤ m ∧ m < big) ∧ -big ≤ n ∧ n < big then some (rngD m (n - m).toNat, e) else none
  | _ => none
theorem kR2b_1 {m : Int} {n} {e} : kR2b m (some (.fz (.int n), e)) = if (-big ≤ m ∧ m < big) ∧ -big ≤ n ∧ n < big then some (rngD m (n - m).toNat, e) else none := (rfl)
def kR2 (b : M RV) : Option (RV × Env) → Option (List D × Env)
  | some (.fz (.int m), e) => kR2b m (b e)
  | _ => none
@[simp] theorem kR2_1 {b : M RV} {m} {e} : kR2 b (some (.fz (.int m), e)) = kR2b m (b e) := (rfl)
@[simp] theorem q_r2 {a b : M RV} {env : Env} : itR2 a b env = kR2 b (a env) := by
  unfold itR2
  cases a env with
  | none => rfl
  | some r =>
    obtain ⟨x, e⟩ := r
    cases x with
    | fz d =>
      cases d with
      | int m =>
        simp only [kR2]
        cases b e with
        | none => rfl
        | some r =>
          obtain ⟨y, e2⟩ := r
          cases y with
          | fz d => cases d <;> rfl
          | _ => rfl
      | _ => rfl
    | _ => rfl
def kEn : Option (List D × Env) → Option (List D × Env)
  | some (ds, e) => some (enum 0 ds, e)
  | none => none
@[simp] theorem kEn_1 {ds} {e} : kEn (some (ds, e)) = some (enum 0 ds, e) := (rfl)
@[simp] theorem kEn_2  : kEn (none) = none := (rfl)
@[simp] theorem q_en {it : M (List D)} {env : Env} : itEn it env = kEn (it env) := by
  unfold itEn
  cases it env <;> rfl
def kRv : Option (List D × Env) → Option (List D × Env)
  | some (ds, e) => some (ds.reverse, e)
  | none => none
@[simp] theorem kRv_1 {ds} {e} : kRv (some (ds, e)) = some (ds.reverse, e) := (rfl)
@[simp] theorem q_rv {a : M RV} {env : Env} : itRv a env = kRv (kIt (a env)) := by
  unfold itRv
  rw [q_itseq]
  cases kIt (a env) <;> rfl
def kRgL : Option (List D × Env) → Option (RV × Env)
  | some (ds, e) => if ds.length ≤ limit then some (.tm ds, e) else none
  | none => none
@[simp] theorem kRgL_1 {ds} {e} : kRgL (some (ds, e)) = if ds.length ≤ limit then some (.tm ds, e) else none := (rfl)
@[simp] theorem q_rgl {it : M (List D)} {env : Env} : eRgL it env = kRgL (it env) := by
  unfold eRgL
  cases it env <;> rfl
def kRgT : Option (List D × Env) → Option (RV × Env)
  | some (ds, e) => if ds.length ≤ limit then some (.fz (.tuple ds), e) else none
  | none => none
@[simp] theorem kRgT_1 {ds} {e} : kRgT (some (ds, e)) = if ds.length ≤ limit then some (.fz (.tuple ds), e) else none := (rfl)
@[simp] theorem q_rgt {it : M (List D)} {env : Env} : eRgT it env = kRgT (it env) := by
  unfold eRgT
  cases it env <;> rfl
/-! comprehensions -/
def kLc2 : Option (List D × Env) → Option (RV × Env)
  | some (ys, e) => some (.tm ys, e)
  | none => none
@[simp] theorem kLc2_1 {ys} {e} : kLc2 (some (ys, e)) = some (.tm ys, e) := (rfl)
@[simp] theorem kLc2_2  : kLc2 (none) = none := (rfl)
def kLc (er : List Nat) (g : G) (t : M Bool) (a : M RV) : Option (List D × Env) → Option (RV × Env)
  | some (ds, e) => if ds.length ≤ limit then kLc2 (runLc g t a er ds (ers er e)) else none
  | none => none
@[simp] theorem kLc_1 {er : List Nat} {g : G} {t : M Bool} {a : M RV} {ds} {e} : kLc er g t a (some (ds, e)) = if ds.length ≤ limit then kLc2 (runLc g t a er ds (ers er e)) else none := (rfl)
@[simp] theorem kLc_2 {er : List Nat} {g : G} {t : M Bool} {a : M RV} : kLc er g t a (none) = none := (rfl)
@[simp] theorem q_lc {er : List Nat} {g : G} {it : M (List D)} {t : M Bool} {a : M RV} {env : Env} : eLc er g it t a env = kLc er g t a (it env) := by
  unfold eLc
  cases it env with
  | none => rfl
  | some r =>
    obtain ⟨ds, e⟩ := r
    simp only [kLc]
    by_cases h : ds.length ≤ limit
    · rw [if_pos h, if_pos h]
      cases runLc g t a er ds (ers er e) <;> rfl
    · rw [if_neg h, if_neg h]
def kRl4 (y : D) : Option (List D × Env) → Option (List D × Env)
  | some (ys, e) => some (y :: ys, e)
  | none => none
@[simp] theorem kRl4_1 {y : D} {ys} {e} : kRl4 y (some (ys, e)) = some (y :: ys, e) := (rfl)
@[simp] theorem kRl4_2 {y : D} : kRl4 y (none) = none := (rfl)
def kRl3 (g : G) (t : M Bool) (a : M RV) (er : List Nat) (ds : List D) : Option (D × Env) → Option (List D × Env)
  | some (y, e) => kRl4 y (runLc g t a er ds (ers er e))
  | none => none
@[simp] theorem kRl3_1 {g : G} {t : M Bool} {a : M RV} {er : List Nat} {ds : List D} {y} {e} : kRl3 g t a er ds (some (y, e)) = kRl4 y (runLc g t a er ds (ers er e)) := (rfl)
@[simp] theorem kRl3_2 {g : G} {t : M Bool} {a : M RV} {er : List Nat} {ds : List D} : kRl3 g t a er ds (none) = none := (rfl)
def kRl2 (g : G) (t : M Bool) (a : M RV) (er : List Nat) (ds : List D) : Option (RV × Env) → Option (List D × Env)
  | some (x, e) => kRl3 g t a er ds (fzv e x)
  | none => none
@[simp] theorem kRl2_1 {g : G} {t : M Bool} {a : M RV} {er : List Nat} {ds : List D} {x} {e} : kRl2 g t a er ds (some (x, e)) = kRl3 g t a er ds (fzv e x) := (rfl)
@[simp] theorem kRl2_2 {g : G} {t : M Bool} {a : M RV} {er : List Nat} {ds : List D} : kRl2 g t a er ds (none) = none := (rfl)
def kRl1 (g : G) (t : M Bool) (a : M RV) (er : List Nat) (ds : List D) : Option (Bool × Env) → Option (List D × Env)
  | some (c, e) => if c = true then kRl2 g t a er ds (a e) else runLc g t a er ds (ers er e)
  | none => none
@[simp] theorem kRl1_1 {g : G} {t : M Bool} {a : M RV} {er : List Nat} {ds : List D} {c} {e} : kRl1 g t a er ds (some (c, e)) = if c = true then kRl2 g t a er ds (a e) else runLc g t a er ds (ers er e) := (rfl)
@[simp] theorem kRl1_2 {g : G} {t : M Bool} {a : M RV} {er : List Nat} {ds : List D} : kRl1 g t a er ds (none) = none := (rfl)
def kRl (g : G) (t : M Bool) (a : M RV) (er : List Nat) (ds : List D) : Option Env → Option (List D × Env)
  | some e => kRl1 g t a er ds (t e)
  | none => none
@[simp] theorem kRl_1 {g : G} {t : M Bool} {a : M RV} {er : List Nat} {ds : List D} {e} : kRl g t a er ds (some e) = kRl1 g t a er ds (t e) := (rfl)
@[simp] theorem kRl_2 {g : G} {t : M Bool} {a : M RV} {er : List Nat} {ds : List D} : kRl g t a er ds (none) = none := (rfl)
theorem lc_nil {g : G} {t : M Bool} {a : M RV} {er : List Nat} {env : Env} : runLc g t a er [] env = some ([], env) := (rfl)
theorem lc_cons {g : G} {t : M Bool} {a : M RV} {er : List Nat} {d : D} {ds : List D} {env : Env} : runLc g t a er (d :: ds) env = kRl g t a er ds (g d env) := by
  conv => lhs; unfold runLc
  cases g d env with
  | none => rfl
  | some e =>
    simp only [kRl]
    cases t e with
    | none => rfl
    | some r =>
      obtain ⟨c, e2⟩ := r
      cases c with
      | false => rfl
      | true =>
        simp only [kRl1, if_true]
        cases a e2 with
        | none => rfl
        | some r =>
          obtain ⟨x, e3⟩ := r
          simp only [kRl2]
          cases fzv e3 x with
          | none => rfl
          | some r =>
            obtain ⟨y, e4⟩ := r
            simp only [kRl3]
            cases runLc g t a er ds (ers er e4) <;> rfl
/-! calls -/
def kEa2 (x : It) : Option (List It × Env) → Option (List It × Env)
  | some (l, e) => some (x :: l, e)
  | none => none
@[simp] theorem kEa2_1 {x : It} {l} {e} : kEa2 x (some (l, e)) = some (x :: l, e) := (rfl)
@[simp] theorem kEa2_2 {x : It} : kEa2 x (none) = none := (rfl)
def kEaF2 (r : List Ar) : Option (D × Env) → Option (List It × Env)
  | some (d, e) => kEa2 (.d d) (evA r e)
  | none => none
@[simp] theorem kEaF2_1 {r : List Ar} {d} {e} : kEaF2 r (some (d, e)) = kEa2 (.d d) (evA r e) := (rfl)
@[simp] theorem kEaF2_2 {r : List Ar} : kEaF2 r (none) = none := (rfl)
def kEaF (r : List Ar) : Option (RV × Env) → Option (List It × Env)
  | some (x, e) => kEaF2 r (fzv e x)
  | none => none
@[simp] theorem kEaF_1 {r : List Ar} {x} {e} : kEaF r (some (x, e)) = kEaF2 r (fzv e x) := (rfl)
@[simp] theorem kEaF_2 {r : List Ar} : kEaF r (none) = none := (rfl)
def kEaB (r : List Ar) : Option (RV × Env) → Option (List It × Env)
  | some (.fz d, e) => kEa2 (.d d) (evA r e)
  | some (.tm ds, e) => kEa2 (.d (.list ds)) (evA r e)
  | some (.nt o, e) => kEa2 (.d (er o)) (evA r e)
  | some (.sl i, e) => kEa2 (.r i) (evA r e)
  | none => none
@[simp] theorem kEaB_1 {r : List Ar} {d} {e} : kEaB r (some (.fz d, e)) = kEa2 (.d d) (evA r e) := (rfl)
@[simp] theorem kEaB_2 {r : List Ar} {ds} {e} : kEaB r (some (.tm ds, e)) = kEa2 (.d (.list ds)) (evA r e) := (rfl)
@[simp] theorem kEaB_5 {r : List Ar} {o} {e} : kEaB r (some (.nt o, e)) = kEa2 (.d (er o)) (evA r e) := (rfl)
@[simp] theorem kEaB_3 {r : List Ar} {i} {e} : kEaB r (some (.sl i, e)) = kEa2 (.r i) (evA r e) := (rfl)
@[simp] theorem kEaB_4 {r : List Ar} : kEaB r (none) = none := (rfl)
def kEaM (i : Nat) (r : List Ar) (env : Env) : Option Sl → Option (List It × Env)
  | some (.ow _) => kEa2 (.m i) (evA r env)
  | _ => none
@[simp] theorem kEaM_1 {i : Nat} {r : List Ar} {env : Env} {u0_0} : kEaM i r env (some (.ow u0_0)) = kEa2 (.m i) (evA r env) := (rfl)
def kEaS (i : Nat) (r : List Ar) (env : Env) : Option Sl → Option (List It × Env)
  | some (.sc _) => kEa2 (.s i) (evA r env)
  | _ => none
@[simp] theorem kEaS_1 {i : Nat} {r : List Ar} {env : Env} {u0_0} : kEaS i r env (some (.sc u0_0)) = kEa2 (.s i) (evA r env) := (rfl)
@[simp] theorem q_ea0 {env : Env} : evA [] env = some ([], env) := by unfold evA; rfl
@[simp] theorem q_eaf {a : M RV} {r : List Ar} {env : Env} : evA (.fz a :: r) env = kEaF r (a env) := by
  rw [evA]
  cases a env with
  | none => rfl
  | some q =>
    obtain ⟨x, e⟩ := q
    simp only [kEaF]
    cases fzv e x with
    | none => rfl
    | some q =>
      obtain ⟨d, e2⟩ := q
      simp only [kEaF2]
      cases evA r e2 <;> rfl
@[simp] theorem q_eab {a : M RV} {r : List Ar} {env : Env} : evA (.bw a :: r) env = kEaB r (a env) := by
  rw [evA]
  cases a env with
  | none => rfl
  | some q =>
    obtain ⟨x, e⟩ := q
    cases x with
    | _ =>
      simp only [kEaB]
      cases evA r e <;> rfl
@[simp] theorem q_eam {i : Nat} {r : List Ar} {env : Env} : evA (.mt i :: r) env = kEaM i r env (env[i]?) := by
  rw [evA]
  cases env[i]? with
  | none => rfl
  | some s =>
    cases s with
    | ow _ => simp only [kEaM]; cases evA r env <;> rfl
    | _ => rfl
@[simp] theorem q_eas {i : Nat} {r : List Ar} {env : Env} : evA (.sc i :: r) env = kEaS i r env (env[i]?) := by
  rw [evA]
  cases env[i]? with
  | none => rfl
  | some s =>
    cases s with
    | sc _ => simp only [kEaS]; cases evA r env <;> rfl
    | _ => rfl
def kC3 (l : List It) (e : Env) : Option (Rt × List (List D)) → Option (RV × Env)
  | some (r, ms) => if ms.length = (muts l).length then some (toRV r, setM (muts l) ms e) else none
  | none => none
@[simp] theorem kC3_1 {l : List It} {e : Env} {r} {ms} : kC3 l e (some (r, ms)) = if ms.length = (muts l).length then some (toRV r, setM (muts l) ms e) else none := (rfl)
@[simp] theorem kC3_2 {l : List It} {e : Env} : kC3 l e (none) = none := (rfl)
def kC2 (F : FnS) (l : List It) (e : Env) : Option (List D) → Option (RV × Env)
  | some ds => kC3 l e (F ds)
  | none => none
@[simp] theorem kC2_1 {F : FnS} {l : List It} {e : Env} {ds} : kC2 F l e (some ds) = kC3 l e (F ds) := (rfl)
@[simp] theorem kC2_2 {F : FnS} {l : List It} {e : Env} : kC2 F l e (none) = none := (rfl)
def kC (F : FnS) : Option (List It × Env) → Option (RV × Env)
  | some (l, e) => if okM l = true then kC2 F l e (itDs e l) else none
  | none => none
@[simp] theorem kC_1 {F : FnS} {l} {e} : kC F (some (l, e)) = if okM l = true then kC2 F l e (itDs e l) else none := (rfl)
@[simp] theorem kC_2 {F : FnS} : kC F (none) = none := (rfl)
@[simp] theorem q_call {F : FnS} {as : List Ar} {env : Env} : eCall F as env = kC F (evA as env) := by
  unfold eCall
  cases evA as env with
  | none => rfl
  | some q =>
    obtain ⟨l, e⟩ := q
    simp only [kC]
    by_cases h : okM l = true
    · rw [if_pos h, if_pos h]
      cases itDs e l with
      | none => rfl
      | some ds =>
        simp only [kC2]
        cases F ds with
        | none => rfl
        | some q =>
          obtain ⟨r, ms⟩ := q
          cases r <;> rfl
    · rw [if_neg h, if_neg h]
def kT3 (l : List It) (e : Env) : Option (Rt × List (List D)) → Option (RV × Env)
  | some (r, _ :: ms) => if ms.length = (muts l).length then some (toRV r, setM (muts l) ms e) else none
  | _ => none
@[simp] theorem kT3_1 {l : List It} {e : Env} {r} {m} {ms} : kT3 l e (some (r, m :: ms)) = if ms.length = (muts l).length then some (toRV r, setM (muts l) ms e) else none := (rfl)
def kT2 (F : FnS) (xs : List D) (l : List It) (e : Env) : Option (List D) → Option (RV × Env)
  | some ds => kT3 l e (F (.list xs :: ds))
  | none => none
@[simp] theorem kT2_1 {F : FnS} {xs : List D} {l : List It} {e : Env} {ds} : kT2 F xs l e (some ds) = kT3 l e (F (.list xs :: ds)) := (rfl)
def kT1 (F : FnS) (xs : List D) : Option (List It × Env) → Option (RV × Env)
  | some (l, e) => if okM l = true then kT2 F xs l e (itDs e l) else none
  | none => none
@[simp] theorem kT1_1 {F : FnS} {xs : List D} {l} {e} : kT1 F xs (some (l, e)) = if okM l = true then kT2 F xs l e (itDs e l) else none := (rfl)
def kT (F : FnS) (as : List Ar) : Option (RV × Env) → Option (RV × Env)
  | some (.tm xs, e) => kT1 F xs (evA as e)
  | _ => none
@[simp] theorem kT_1 {F : FnS} {as : List Ar} {xs} {e} : kT F as (some (.tm xs, e)) = kT1 F xs (evA as e) := (rfl)
@[simp] theorem q_callT {F : FnS} {a : M RV} {as : List Ar} {env : Env} : eCallT F a as env = kT F as (a env) := by
  unfold eCallT
  cases a env with
  | none => rfl
  | some q =>
    obtain ⟨x, e⟩ := q
    cases x with
    | tm xs =>
      simp only [kT]
      cases evA as e with
      | none => rfl
      | some q =>
        obtain ⟨l, e1⟩ := q
        simp only [kT1]
        by_cases h : okM l = true
        · rw [if_pos h, if_pos h]
          cases itDs e1 l with
          | none => rfl
          | some ds =>
            simp only [kT2]
            cases F (.list xs :: ds) with
            | none => rfl
            | some q =>
              obtain ⟨r, ms⟩ := q
              cases ms <;> rfl
        · rw [if_neg h, if_neg h]
    | _ => rfl
def kCv2 (e : Env) : Option (Rt × List (List D)) → Option (RV × Env)
  | some (r, []) => some (toRV r, e)
  | _ => none
@[simp] theorem kCv2_1 {e : Env} {r} : kCv2 e (some (r, [])) = some (toRV r, e) := (rfl)
def kCv (F : FnS) : Option (List D × Env) → Option (RV × Env)
  | some (ds, e) => kCv2 e (F [.tuple ds])
  | none => none
@[simp] theorem kCv_1 {F : FnS} {ds} {e} : kCv F (some (ds, e)) = kCv2 e (F [.tuple ds]) := (rfl)
@[simp] theorem q_callV {F : FnS} {as : M (List D)} {env : Env} : eCallV F as env = kCv F (as env) := by
  unfold eCallV
  cases as env with
  | none => rfl
  | some q =>
    obtain ⟨ds, e⟩ := q
    simp only [kCv]
    cases F [.tuple ds] with
    | none => rfl
    | some q =>
      obtain ⟨r, ms⟩ := q
      cases ms <;> rfl
def kFn3 (r : Rt) : Option (List (List D)) → Option (Rt × List (List D))
  | some ms => some (r, ms)
  | none => none
@[simp] theorem kFn3_1 {r : Rt} {ms} : kFn3 r (some ms) = some (r, ms) := (rfl)
@[simp] theorem kFn3_2 {r : Rt} : kFn3 r (none) = none := (rfl)
def kFn2 (ks : List PK) : Option Fl → Option (Rt × List (List D))
  | some (.nx e) => kFn3 (.fz .none) (fin ks e)
  | some (.rt r e) => kFn3 r (fin ks e)
  | _ => none
@[simp] theorem kFn2_1 {ks : List PK} {e} : kFn2 ks (some (.nx e)) = kFn3 (.fz .none) (fin ks e) := (rfl)
@[simp] theorem kFn2_2 {ks : List PK} {r} {e} : kFn2 ks (some (.rt r e)) = kFn3 r (fin ks e) := (rfl)
def kFn (ks : List PK) (n : Nat) (body : SM) : Option Env → Option (Rt × List (List D))
  | some e => kFn2 ks (body (e ++ List.replicate n .no))
  | none => none
@[simp] theorem kFn_1 {ks : List PK} {n : Nat} {body : SM} {e} : kFn ks n body (some e) = kFn2 ks (body (e ++ List.replicate n .no)) := (rfl)
@[simp] theorem kFn_2 {ks : List PK} {n : Nat} {body : SM} : kFn ks n body (none) = none := (rfl)
theorem q_fn {ks : List PK} {n : Nat} {body : SM} {ds : List D} : mkFn ks n body ds = kFn ks n body (ini ks ds) := by
  unfold mkFn
  cases ini ks ds with
  | none => rfl
  | some e =>
    simp only [kFn]
    cases body (e ++ List.replicate n .no) with
    | none => rfl
    | some fl =>
      cases fl with
      | nx e => simp only [kFn2]; cases fin ks e <;> rfl
      | rt r e => simp only [kFn2]; cases fin ks e <;> rfl
      | _ => rfl
def kScI2 (k : Int) (e : Env) (ds : List D) : Option Nat → Option (RV × Env)
  | some j => match ds[j]? with
    | some d => some (.fz d, e)
    | none => none
  | none => none
@[simp] theorem kScI2_1 {k : Int} {e : Env} {ds : List D} {j} : kScI2 k e ds (some j) = match ds[j]? with
      | some d => some (.fz d, e)
      | none => none := (rfl)
@[simp] theorem kScI2_2 {k : Int} {e : Env} {ds : List D} : kScI2 k e ds (none) = none := (rfl)
def kScI1 (k : Int) (e : Env) : Option Sl → Option (RV × Env)
  | some (.sc ds) => kScI2 k e ds (ixN ds.length k)
  | _ => none
theorem kScI1_1 {k : Int} {e : Env} {ds} : kScI1 k e (some (.sc ds)) = kScI2 k e ds (ixN ds.length k) := (rfl)
def kScI0 (i : Nat) : Option (RV × Env) → Option (RV × Env)
  | some (.fz (.int k), e) => kScI1 k e (e[i]?)
  | _ => none
@[simp] theorem kScI0_1 {i : Nat} {k} {e} : kScI0 i (some (.fz (.int k), e)) = kScI1 k e (e[i]?) := (rfl)
def kScI (i : Nat) (a : M RV) (env : Env) : Option Sl → Option (RV × Env)
  | some (.sc _) => kScI0 i (a env)
  | _ => none
@[simp] theorem kScI_1 {i : Nat} {a : M RV} {env : Env} {u0_0} : kScI i a env (some (.sc u0_0)) = kScI0 i (a env) := (rfl)
@[simp] theorem q_scix {i : Nat} {a : M RV} {env : Env} : eScIx i a env = kScI i a env (env[i]?) := by
  unfold eScIx
  cases env[i]? with
  | none => rfl
  | some s =>
    cases s with
    | sc _ =>
      simp only [kScI]
      cases a env with
      | none => rfl
      | some q =>
        obtain ⟨x, e⟩ := q
        cases x with
        | fz d =>
          cases d with
          | int k =>
            simp only [kScI0]
            cases e[i]? with
            | none => rfl
            | some s =>
              cases s with
              | sc ds =>
                simp only [kScI1]
                cases ixN ds.length k with
                | none => rfl
                | some j =>
                  first
                    | rfl
                    | (simp only [kScI2]; done)
                    | (simp only [kScI2]; cases ds[j]? <;> rfl)
              | _ => rfl
          | _ => rfl
        | _ => rfl
    | _ => rfl
def kScS2 (l h : Option Int) (e : Env) : Option Sl → Option (RV × Env)
  | some (.sc ds) => some (.tm (cutD ds l h), e)
  | _ => none
@[simp] theorem kScS2_1 {l : Option Int} {h : Option Int} {e : Env} {ds} : kScS2 l h e (some (.sc ds)) = some (.tm (cutD ds l h), e) := (rfl)
def kScS1 (i : Nat) (l : Option Int) : Option (Option Int × Env) → Option (RV × Env)
  | some (h, e) => kScS2 l h e (e[i]?)
  | none => none
@[simp] theorem kScS1_1 {i : Nat} {l : Option Int} {h} {e} : kScS1 i l (some (h, e)) = kScS2 l h e (e[i]?) := (rfl)
@[simp] theorem kScS1_2 {i : Nat} {l : Option Int} : kScS1 i l (none) = none := (rfl)
def kScS0 (i : Nat) (hi : M (Option Int)) : Option (Option Int × Env) → Option (RV × Env)
  | some (l, e) => kScS1 i l (hi e)
  | none => none
@[simp] theorem kScS0_1 {i : Nat} {hi : M (Option Int)} {l} {e} : kScS0 i hi (some (l, e)) = kScS1 i l (hi e) := (rfl)
@[simp] theorem kScS0_2 {i : Nat} {hi : M (Option Int)} : kScS0 i hi (none) = none := (rfl)
def kScS (i : Nat) (lo hi : M (Option Int)) (env : Env) : Option Sl → Option (RV × Env)
  | some (.sc _) => kScS0 i hi (lo env)
  | _ => none
@[simp] theorem kScS_1 {i : Nat} {lo : M (Option Int)} {hi : M (Option Int)} {env : Env} {u0_0} : kScS i lo hi env (some (.sc u0_0)) = kScS0 i hi (lo env) := (rfl)
@[simp] theorem q_scsl {i : Nat} {lo hi : M (Option Int)} {env : Env} : eScSl i lo hi env = kScS i lo hi env (env[i]?) := by
  unfold eScSl
  cases env[i]? with
  | none => rfl
  | some s =>
    cases s with
    | sc _ =>
      simp only [kScS]
      cases lo env with
      | none => rfl
      | some q =>
        obtain ⟨l, e⟩ := q
        simp only [kScS0]
        cases hi e with
        | none => rfl
        | some q =>
          obtain ⟨h, e2⟩ := q
          simp only [kScS1]
          cases e2[i]? with
          | none => rfl
          | some s => cases s <;> rfl
    | _ => rfl
@[simp] theorem get0 {α : Type} {a : α} {l : List α} : (a :: l)[0]? = some a := (rfl)
/-! numbers, within their bounds -/
@[simp] theorem mulI {i j : Int} (h1 : -115792089237316195423570985008687907853269984665640564039457584007913129639936 < i) (h2 : i < 115792089237316195423570985008687907853269984665640564039457584007913129639936)
    (h3 : -115792089237316195423570985008687907853269984665640564039457584007913129639936 < j) (h4 : j < 115792089237316195423570985008687907853269984665640564039457584007913129639936) : mulD (.int i) (.int j) = some (.fz (.int (i * j))) := by
  rw [mulD_1]
  unfold mB
  rw [if_pos (.inl (by omega))]
/-- great numbers -/
@[simp] theorem mulI2 {i j : Int} (h1 : -5260135901548373507240989882880128665550339802823173859498280903068732154297080822113666536277588451226982968856178217713019432250183803863127814770651880849955223671128444598191663757884322717271293251735781376 < i) (h2 : i < 5260135901548373507240989882880128665550339802823173859498280903068732154297080822113666536277588451226982968856178217713019432250183803863127814770651880849955223671128444598191663757884322717271293251735781376) (h3 : -5260135901548373507240989882880128665550339802823173859498280903068732154297080822113666536277588451226982968856178217713019432250183803863127814770651880849955223671128444598191663757884322717271293251735781376 < j) (h4 : j < 5260135901548373507240989882880128665550339802823173859498280903068732154297080822113666536277588451226982968856178217713019432250183803863127814770651880849955223671128444598191663757884322717271293251735781376) : mulD (.int i) (.int j) = some (.fz (.int (i * j))) := by
  rw [mulD_1]
  unfold mB
  rw [if_pos (.inl (by omega))]
/-- a great number by a small one -/
@[simp] theorem mulI3 {i j : Int} (h1 : -18446744073709551616 < i) (h2 : i < 18446744073709551616) : mulD (.int i) (.int j) = some (.fz (.int (i * j))) := by
  rw [mulD_1, if_pos (.inr (.inl ⟨h1, h2⟩))]
@[simp] theorem fdivI {i j : Int} (h1 : j ≠ 0) (h2 : -1073741824 < j) (h3 : j < 1073741824) : fdivD (.int i) (.int j) = some (.fz (.int (i.fdiv j))) := by
  rw [fdivD_1, if_pos ⟨h1, h2, h3⟩]
@[simp] theorem modI {i j : Int} (h1 : j ≠ 0) : modD (.int i) (.int j) = some (.fz (.int (i.fmod j))) := by
  rw [modD_1, if_pos h1]
@[simp] theorem powI {i j : Int} (h1 : 0 ≤ j) (h2 : j ≤ 1000000) (h3 : -18446744073709551616 < i) (h4 : i < 18446744073709551616) : powD (.int i) (.int j) = some (.fz (.int (i ^ j.toNat))) := by
  rw [powD_1, if_pos ⟨⟨h1, h2⟩, h3, h4⟩]
@[simp] theorem r1I {n : Int} {e : Env} (h1 : -4611686018427387904 ≤ n) (h2 : n < 4611686018427387904) : kR1 (some (.fz (.int n), e)) = some (rngD 0 n.toNat, e) := by
  rw [kR1_1, if_pos ⟨h1, h2⟩]
@[simp] theorem r2I {m n : Int} {e : Env} (h1 : -4611686018427387904 ≤ n) (h2 : n < 4611686018427387904) (h3 : -4611686018427387904 ≤ m) (h4 : m < 4611686018427387904) : kR2b m (some (.fz (.int n), e)) = some (rngD m (n - m).toNat, e) := by
  rw [kR2b_1, if_pos ⟨⟨h3, h4⟩, h1, h2⟩]
@[simp] theorem absN {i : Int} : absD (.int i) = some (.fz (.int (i.natAbs : Nat))) := by
  rw [absD_1]
  congr 3
  split <;> omega
@[simp] theorem maxM {i j : Int} : maxD (.int i) (.int j) = some (.fz (.int (max i j))) := by
  rw [maxD_1]
  congr 3
  split <;> omega
@[simp] theorem minM {i j : Int} : minD (.int i) (.int j) = some (.fz (.int (min i j))) := by
  rw [minD_1]
  congr 3
  split <;> omega
/-! lists of ints -/
def li (l : List Int) : List D := l.map PyData.int
@[simp] theorem cutD_map {α β : Type} (f : α → β) (xs : List α) (lo hi : Option Int) : cutD (xs.map f) lo hi = (cutD xs lo hi).map f := by
  unfold cutD
  rw [List.length_map, List.map_take, List.map_drop]
@[simp] theorem li_nil : li [] = [] := (rfl)
theorem li_cons (x : Int) (l : List Int) : li (x :: l) = .int x :: li l := (rfl)
@[simp] theorem li_len (l : List Int) : (li l).length = l.length := by simp [li]
@[simp] theorem li_get (l : List Int) (i : Nat) : (li l)[i]? = (l[i]?).map PyData.int := by simp [li]
@[simp] theorem li_cut (l : List Int) (lo hi : Option Int) : cutD (li l) lo hi = li (cutD l lo hi) := by simp [li]
@[simp] theorem li_ints (l : List Int) : asInts (li l) = some l := by simp [li]
@[simp] theorem li_app (a b : List Int) : li a ++ li b = li (a ++ b) := by simp [li]
@[simp] theorem li_one (a : List Int) (x : Int) : li a ++ [.int x] = li (a ++ [x]) := by simp [li]
@[simp] theorem li_set (a : List Int) (i : Nat) (x : Int) : (li a).set i (.int x) = li (a.set i x) := by simp [li]
@[simp] theorem li_last (a : List Int) : (li a).getLast? = a.getLast?.map PyData.int := by simp [li]
@[simp] theorem li_dropLast (a : List Int) : (li a).dropLast = li a.dropLast := by simp [li]
@[simp] theorem li_isEmpty (a : List Int) : (li a).isEmpty = a.isEmpty := by simp [li]
@[simp] theorem li_shp (n : Nat) (a : List Int) : (li a).all (shp n) = true := by simp [li]
@[simp] theorem li_beq (a b : List Int) : beqDs (li a) (li b) = decide (a = b) := beqDs_ints a b
@[simp] theorem li_beqL (a b : List Int) : beqD (.list (li a)) (.list (li b)) = decide (a = b) := by simp [beqD]
@[simp] theorem li_beqT (a b : List Int) : beqD (.tuple (li a)) (.tuple (li b)) = decide (a = b) := by simp [beqD]
theorem li_inj {a b : List Int} (h : li a = li b) : a = b := by
  have := congrArg asInts h
  simpa using this
@[simp] theorem ixN_nn {n : Nat} {i : Int} (h0 : 0 ≤ i) (h1 : i < n) : ixN n i = some i.toNat := by
  unfold ixN
  rw [if_pos h0, if_pos h1]
theorem ixN_ng {n : Nat} {i : Int} (h0 : i < 0) (h1 : -(n : Int) ≤ i) : ixN n i = some (i + n).toNat := by
  unfold ixN
  rw [if_neg (by omega), if_pos h1]
/-- the item at i, 0 outside -/
def gt (l : List Int) (i : Int) : Int := l.getD i.toNat 0
theorem gt_nat (l : List Int) (i : Nat) : gt l i = l.getD i 0 := by simp [gt]
theorem gt_of {l : List Int} {i : Nat} (h : i < l.length) : l[i]? = some (gt l i) := by
  rw [gt_nat, List.getD_eq_getElem?_getD, List.getElem?_eq_getElem h]; rfl
theorem gt_of' {l : List Int} {i : Int} (h0 : 0 ≤ i) (h : i < l.length) : l[i.toNat]? = some (gt l i) := by
  have := gt_of (l := l) (i := i.toNat) (by omega)
  rwa [show ((i.toNat : Nat) : Int) = i by omega] at this
@[simp] theorem ixL {l : List Int} {i : Int} (h0 : 0 ≤ i) (h1 : i < l.length) : ixD (.list (li l)) (.int i) = some (.fz (.int (gt l i))) := by
  simp only [ixD_1, li_len, ixN_nn h0 h1, li_get, gt_of' h0 h1, Option.map_some]
@[simp] theorem ixT {l : List Int} {i : Int} (h0 : 0 ≤ i) (h1 : i < l.length) : ixD (.tuple (li l)) (.int i) = some (.fz (.int (gt l i))) := by
  simp only [ixD_2, li_len, ixN_nn h0 h1, li_get, gt_of' h0 h1, Option.map_some]
theorem ixLn {l : List Int} {i : Int} (h0 : i < 0) (h1 : -(l.length : Int) ≤ i) : ixD (.list (li l)) (.int i) = some (.fz (.int (gt l (i + l.length)))) := by
  have e : i + (l.length : Int) = (((i + l.length).toNat : Nat) : Int) := by omega
  have q := gt_of (l := l) (i := (i + l.length).toNat) (by omega)
  simp only [ixD_1, li_len, ixN_ng h0 h1, li_get, q, Option.map_some]
  rw [← e]
theorem ixTn {l : List Int} {i : Int} (h0 : i < 0) (h1 : -(l.length : Int) ≤ i) : ixD (.tuple (li l)) (.int i) = some (.fz (.int (gt l (i + l.length)))) := by
  have e : i + (l.length : Int) = (((i + l.length).toNat : Nat) : Int) := by omega
  have q := gt_of (l := l) (i := (i + l.length).toNat) (by omega)
  simp only [ixD_2, li_len, ixN_ng h0 h1, li_get, q, Option.map_some]
  rw [← e]
@[simp] theorem ixSc {l : List Int} {i : Int} {e : Env} (h0 : 0 ≤ i) (h1 : i < l.length) : kScI1 i e (some (.sc (li l))) = some (.fz (.int (gt l i)), e) := by
  simp only [kScI1_1, li_len, ixN_nn h0 h1, kScI2_1, li_get, gt_of' h0 h1, Option.map_some]
@[simp] theorem apL {i : Nat} {x : Int} {e : Env} {l : List Int} (h : l.length < 16777216) : kApp3 i (.int x) e (some (.ow (li l))) = some (.nx (e.set i (.ow (li (l ++ [x]))))) := by
  rw [kApp3_1, if_pos (by rw [li_len]; exact h), li_one]
@[simp] theorem apN {i : Nat} {x : Int} {e : Env} : kApp3 i (.int x) e (some (.ow [])) = some (.nx (e.set i (.ow (li [x])))) := (rfl)
@[simp] theorem exL {i : Nat} {e : Env} {l m : List Int} (h : l.length + m.length ≤ 16777216) : kExt3 i (li m) e (some (.ow (li l))) = some (.nx (e.set i (.ow (li (l ++ m))))) := by
  rw [kExt3_1, if_pos (by rw [li_len, li_len]; exact h), li_app]
@[simp] theorem exA {i : Nat} {e : Env} {l m : List Int} (h : l.length + m.length ≤ 16777216) : kExtA3 i (li m) e (some (.ow (li l))) = some (.nx (e.set i (.ow (li (l ++ m))))) := by
  rw [kExtA3_1, if_pos (by rw [li_len, li_len]; exact h), li_app]
@[simp] theorem addL {l m : List Int} (h : l.length + m.length ≤ 16777216) : addD (.list (li l)) (.list (li m)) = some (.ow (li (l ++ m))) := by
  rw [addD_2, if_pos (by rw [li_len, li_len]; exact h), li_app]
@[simp] theorem li_rev (l : List Int) : (li l).reverse = li l.reverse := by simp [li]
theorem li_map {l : List Int} {f : Int → Int} : (l.map fun x => PyData.int (f x)) = li (l.map f) := by simp [li, Function.comp_def]
theorem rep_li (l : List Int) (k : Nat) : (List.replicate k (li l)).flatten = li (List.replicate k l).flatten := by
  induction k with
  | zero => rfl
  | succ k ih => rw [List.replicate_succ, List.replicate_succ, List.flatten_cons, List.flatten_cons, ih, li_app]
@[simp] theorem mulL {l : List Int} {j : Int} (h0 : -4611686018427387904 ≤ j) (h1 : j < 4611686018427387904) (h : l.length * j.toNat ≤ 16777216) : mulD (.list (li l)) (.int j) = some (.ow (li (List.replicate j.toNat l).flatten)) := by
  rw [mulD_2, if_pos ⟨by rw [li_len]; exact h, h0, h1⟩, rep_li]
@[simp] theorem mulT {l : List Int} {j : Int} (h0 : -1000 ≤ j) (h1 : j ≤ 1000) (h : l.length ≤ 1000) : mulD (.tuple (li l)) (.int j) = some (.fz (.tuple (li (List.replicate j.toNat l).flatten))) := by
  rw [mulD_3, if_pos ⟨by rw [li_len]; exact h, h0, h1⟩, rep_li]
theorem rep_len (l : List Int) (k : Nat) : (List.replicate k l).flatten.length = k * l.length := by
  induction k with
  | zero => simp
  | succ k ih => rw [List.replicate_succ, List.flatten_cons, List.length_append, ih, Nat.succ_mul]; omega
theorem cut_len {α : Type} (l : List α) (a b : Option Int) : (cutD l a b).length ≤ l.length := by
  unfold cutD
  simp
  omega
theorem cut_le {α : Type} (l : List α) (b : Int) (h : 0 ≤ b) : (cutD l none (some b)).length ≤ b.toNat := by
  unfold cutD sIx
  simp only [if_neg (show ¬ b < 0 by omega)]
  simp
  omega
@[simp] theorem ixC0 {x : D} {l : List D} : ixD (.list (x :: l)) (.int 0) = some (.fz x) := by
  rw [ixD_1, ixN_nn (Int.le_refl 0) (by simp only [List.length_cons]; omega)]
  rfl
@[simp] theorem ixC1 {x y : D} {l : List D} : ixD (.list (x :: y :: l)) (.int 1) = some (.fz y) := by
  rw [ixD_1, ixN_nn (by decide) (by simp only [List.length_cons]; omega)]
  rfl
@[simp] theorem ixC2 {x y z : D} {l : List D} : ixD (.list (x :: y :: z :: l)) (.int 2) = some (.fz z) := by
  rw [ixD_1, ixN_nn (by decide) (by simp only [List.length_cons]; omega)]
  rfl
@[simp] theorem ixU0 {x : D} {l : List D} : ixD (.tuple (x :: l)) (.int 0) = some (.fz x) := by
  rw [ixD_2, ixN_nn (Int.le_refl 0) (by simp only [List.length_cons]; omega)]
  rfl
@[simp] theorem ixU1 {x y : D} {l : List D} : ixD (.tuple (x :: y :: l)) (.int 1) = some (.fz y) := by
  rw [ixD_2, ixN_nn (by decide) (by simp only [List.length_cons]; omega)]
  rfl
@[simp] theorem ixU2 {x y z : D} {l : List D} : ixD (.tuple (x :: y :: z :: l)) (.int 2) = some (.fz z) := by
  rw [ixD_2, ixN_nn (by decide) (by simp only [List.length_cons]; omega)]
  rfl
@[simp] theorem sortT {l : List Int} : sortedD (.tuple (li l)) = some (.ow (li (srt l))) := by
  simp [sortedD_2, li]
@[simp] theorem sortL {l : List Int} : sortedD (.list (li l)) = some (.ow (li (srt l))) := by
  simp [sortedD_1, li]
theorem srt_perm (l : List Int) : (srt l).Perm l := List.mergeSort_perm _ _
theorem srt_mem {l : List Int} {x : Int} : x ∈ srt l ↔ x ∈ l := (srt_perm l).mem_iff
theorem srt_len (l : List Int) : (srt l).length = l.length := (srt_perm l).length_eq
theorem srt_le (l : List Int) : (srt l).Pairwise (· ≤ ·) := by
  have := List.pairwise_mergeSort (le := fun a b : Int => decide (a ≤ b)) (fun a b c h1 h2 => by simp at *; omega) (fun a b => by simp; omega) l
  exact this.imp fun h => by simpa using h
@[simp] theorem addT {l m : List Int} (h : l.length + m.length ≤ 16777216) : addD (.tuple (li l)) (.tuple (li m)) = some (.fz (.tuple (li (l ++ m)))) := by
  rw [addD_3, if_pos (by rw [li_len, li_len]; exact h), li_app]
theorem rng_zero (lo : Int) : rngD lo 0 = [] := (rfl)
theorem rng_succ (lo : Int) (n : Nat) : rngD lo (n + 1) = .int lo :: rngD (lo + 1) n := by
  unfold rngD
  rw [List.range_succ_eq_map, List.map_cons, List.map_map]
  congr 1
  · simp
  · apply List.map_congr_left
    intro k _
    simp only [Function.comp]
    congr 1
    omega
@[simp] theorem len_rng (lo : Int) (n : Nat) : (rngD lo n).length = n := by unfold rngD; simp
theorem enum_cons (k : Nat) (d : D) (ds : List D) : enum k (d :: ds) = .tuple [.int k, d] :: enum (k + 1) ds := (rfl)
/-! turns of a loop -/
inductive Tn where
  | go (e : Env) | end (fl : Fl)
def kTn2 (er : List Nat) : Option Fl → Option Tn
  | some (.nx e) => some (.go (ers er e))
  | some (.ct e) => some (.go (ers er e))
  | some (.bk e) => some (.end (.nx (ers er e)))
  | some (.rt r e) => some (.end (.rt r e))
  | some (.ex c e) => some (.end (.ex c e))
  | none => none
@[simp] theorem kTn2_1 {er : List Nat} {e} : kTn2 er (some (.nx e)) = some (.go (ers er e)) := (rfl)
@[simp] theorem kTn2_2 {er : List Nat} {e} : kTn2 er (some (.ct e)) = some (.go (ers er e)) := (rfl)
@[simp] theorem kTn2_3 {er : List Nat} {e} : kTn2 er (some (.bk e)) = some (.end (.nx (ers er e))) := (rfl)
@[simp] theorem kTn2_6 {er : List Nat} {c} {e} : kTn2 er (some (.ex c e)) = some (.end (.ex c e)) := (rfl)
@[simp] theorem kTn2_4 {er : List Nat} {r} {e} : kTn2 er (some (.rt r e)) = some (.end (.rt r e)) := (rfl)
@[simp] theorem kTn2_5 {er : List Nat} : kTn2 er (none) = none := (rfl)
def kTn1 (body : SM) (er : List Nat) : Option Env → Option Tn
  | some e => kTn2 er (body e)
  | none => none
@[simp] theorem kTn1_1 {body : SM} {er : List Nat} {e} : kTn1 body er (some e) = kTn2 er (body e) := (rfl)
@[simp] theorem kTn1_2 {body : SM} {er : List Nat} : kTn1 body er (none) = none := (rfl)
def turn (g : G) (body : SM) (er : List Nat) (d : D) (env : Env) : Option Tn := kTn1 body er (g d env)
def kTw1 (body : SM) (er : List Nat) : Option (Bool × Env) → Option Tn
  | some (c, e) => if c = true then kTn2 er (body e) else some (.end (.nx e))
  | none => none
@[simp] theorem kTw1_1 {body : SM} {er : List Nat} {c} {e} : kTw1 body er (some (c, e)) = if c = true then kTn2 er (body e) else some (.end (.nx e)) := (rfl)
@[simp] theorem kTw1_2 {body : SM} {er : List Nat} : kTw1 body er (none) = none := (rfl)
def turnW (t : M Bool) (body : SM) (er : List Nat) (env : Env) : Option Tn := kTw1 body er (t env)
theorem for_turn {g : G} {body : SM} {er : List Nat} {d : D} {ds : List D} {env : Env} : runFor g body er (d :: ds) env = match turn g body er d env with
    | some (.go e) => runFor g body er ds e
    | some (.end fl) => some fl
    | none => none := by
  rw [for_cons]
  unfold turn
  cases g d env with
  | none => rfl
  | some e =>
    simp only [kRf1, kTn1]
    cases body e with
    | none => rfl
    | some fl => cases fl <;> rfl
theorem while_turn {t : M Bool} {body : SM} {er : List Nat} {n : Nat} {env : Env} : runWhile t body er (n + 1) env = match turnW t body er env with
    | some (.go e) => runWhile t body er n e
    | some (.end fl) => some fl
    | none => none := by
  rw [while_succ]
  unfold turnW
  cases t env with
  | none => rfl
  | some r =>
    obtain ⟨c, e⟩ := r
    cases c with
    | false => rfl
    | true =>
      simp only [kRw1, kTw1, if_true]
      cases body e with
      | none => rfl
      | some fl => cases fl <;> rfl
theorem for_go {g : G} {body : SM} {er : List Nat} {d : D} {ds : List D} {env e : Env} (h : turn g body er d env = some (.go e)) : runFor g body er (d :: ds) env = runFor g body er ds e := by
  rw [for_turn, h]
theorem for_end {g : G} {body : SM} {er : List Nat} {d : D} {ds : List D} {env : Env} {fl : Fl} (h : turn g body er d env = some (.end fl)) : runFor g body er (d :: ds) env = some fl := by
  rw [for_turn, h]
theorem while_go {t : M Bool} {body : SM} {er : List Nat} {n : Nat} {env e : Env} (h : turnW t body er env = some (.go e)) : runWhile t body er (n + 1) env = runWhile t body er n e := by
  rw [while_turn, h]
theorem while_end {t : M Bool} {body : SM} {er : List Nat} {n : Nat} {env : Env} {fl : Fl} (h : turnW t body er env = some (.end fl)) : runWhile t body er (n + 1) env = some fl := by
  rw [while_turn, h]
/-- a loop over a range keeps a property, which may hang on the number -/
theorem for_rng {g : G} {body : SM} {er : List Nat} (I : Int → Env → Prop) : ∀ (n : Nat) (lo : Int) (env : Env), I lo env →
    (∀ k env, lo ≤ k → k < lo + n → I k env → ∃ e, turn g body er (.int k) env = some (.go e) ∧ I (k + 1) e) →
    ∃ e, runFor g body er (rngD lo n) env = some (.nx e) ∧ I (lo + n) e
  | 0, lo, env, h, _ => ⟨env, rfl, by simpa using h⟩
  | n + 1, lo, env, h, st => by
    obtain ⟨e1, h1, h3⟩ := st lo env (Int.le_refl _) (by omega) h
    obtain ⟨e, h4, h5⟩ := for_rng I n (lo + 1) _ h3 fun k env a b => st k env (by omega) (by omega)
    refine ⟨e, ?_, by rw [show lo + ((n + 1 : Nat) : Int) = lo + 1 + (n : Int) by omega]; exact h5⟩
    rw [rng_succ, for_go h1, h4]
/-- a loop over ints keeps a property, which may hang on the ints done -/
theorem for_li {g : G} {body : SM} {er : List Nat} (I : List Int → Env → Prop) : ∀ (l done : List Int) (env : Env), I done env →
    (∀ pre x post env, done ++ l = pre ++ x :: post → I pre env → ∃ e, turn g body er (.int x) env = some (.go e) ∧ I (pre ++ [x]) e) →
    ∃ e, runFor g body er (li l) env = some (.nx e) ∧ I (done ++ l) e
  | [], done, env, h, _ => ⟨env, rfl, by simpa using h⟩
  | x :: l, done, env, h, st => by
    obtain ⟨e1, h1, h3⟩ := st done x l env rfl h
    obtain ⟨e, h4, h5⟩ := for_li I l (done ++ [x]) _ h3 fun pre y post env a => st pre y post env (by rw [← a]; simp)
    refine ⟨e, ?_, by simpa using h5⟩
    rw [li_cons, for_go h1, h4]
/-- any loop: the property hangs on the number of the turn; a turn may end the loop -/
theorem for_any {g : G} {body : SM} {er : List Nat} (I : Nat → Env → Prop) (R : Fl → Prop) : ∀ (ds : List D) (n : Nat) (env : Env), I n env →
    (∀ i d env, ds[i]? = some d → I (n + i) env → (∃ e, turn g body er d env = some (.go e) ∧ I (n + i + 1) e) ∨ ∃ fl, turn g body er d env = some (.end fl) ∧ R fl) →
    (∃ e, runFor g body er ds env = some (.nx e) ∧ I (n + ds.length) e) ∨ ∃ fl, runFor g body er ds env = some fl ∧ R fl
  | [], n, env, h, _ => .inl ⟨env, rfl, by simpa using h⟩
  | d :: ds, n, env, h, st => by
    rcases st 0 d env rfl (by simpa using h) with ⟨e1, h1, h3⟩ | ⟨fl, h1, h3⟩
    · rcases for_any I R ds (n + 1) e1 (by simpa using h3) fun i d env a b => by
          have := st (i + 1) d env (by simpa using a) (by rw [show n + (i + 1) = n + 1 + i by omega]; exact b)
          rw [show n + (i + 1) = n + 1 + i by omega] at this
          exact this with ⟨e, h4, h5⟩ | ⟨fl, h4, h5⟩
      · exact .inl ⟨e, by rw [for_go h1, h4], by rw [List.length_cons, show n + (ds.length + 1) = n + 1 + ds.length by omega]; exact h5⟩
      · exact .inr ⟨fl, by rw [for_go h1, h4], h5⟩
    · exact .inr ⟨fl, for_end h1, h3⟩
theorem rng_get {lo : Int} {n i : Nat} {d : D} (h : (rngD lo n)[i]? = some d) : i < n ∧ d = .int (lo + (i : Nat)) := by
  unfold rngD at h
  rw [List.getElem?_map] at h
  rcases Nat.lt_or_ge i n with hi | hi
  · rw [List.getElem?_range hi] at h
    cases h
    exact ⟨hi, rfl⟩
  · rw [List.getElem?_eq_none (by rw [List.length_range]; exact hi)] at h
    cases h
theorem for_rngR {g : G} {body : SM} {er : List Nat} (I : Int → Env → Prop) (R : Fl → Prop) (n : Nat) (lo : Int) (env : Env) (h : I lo env)
    (st : ∀ k env, lo ≤ k → k < lo + n → I k env → (∃ e, turn g body er (.int k) env = some (.go e) ∧ I (k + 1) e) ∨ ∃ fl, turn g body er (.int k) env = some (.end fl) ∧ R fl) :
    (∃ e, runFor g body er (rngD lo n) env = some (.nx e) ∧ I (lo + n) e) ∨ ∃ fl, runFor g body er (rngD lo n) env = some fl ∧ R fl := by
  have := for_any (g := g) (body := body) (er := er) (fun i e => I (lo + i) e) R (rngD lo n) 0 env (by simpa using h) fun i d env a b => by
    obtain ⟨hi, rfl⟩ := rng_get a
    have q := st (lo + i) env (by omega) (by omega) (by simpa using b)
    rw [show lo + (i : Int) + 1 = lo + ((0 + i + 1 : Nat) : Int) by omega] at q
    exact q
  simpa using this
theorem enum_len (k : Nat) (ds : List D) : (enum k ds).length = ds.length := by
  induction ds generalizing k with
  | nil => rfl
  | cons d ds ih => simp [enum, ih]
theorem enum_get {k : Nat} {ds : List D} {i : Nat} {d : D} (h : (enum k ds)[i]? = some d) : ∃ e, ds[i]? = some e ∧ d = .tuple [.int ((k + i : Nat) : Int), e] := by
  induction ds generalizing k i with
  | nil => simp [enum] at h
  | cons a ds ih =>
    cases i with
    | zero => simp [enum] at h; exact ⟨a, rfl, h.symm⟩
    | succ i =>
      simp only [enum, List.getElem?_cons_succ] at h
      obtain ⟨e, h1, h2⟩ := ih h
      exact ⟨e, by simpa using h1, by rw [h2, show k + 1 + i = k + (i + 1) by omega]⟩
/-- enumerate over ints -/
theorem for_enR {g : G} {body : SM} {er : List Nat} (I : Int → Env → Prop) (R : Fl → Prop) (l : List Int) (env : Env) (h : I 0 env)
    (st : ∀ (k : Int) env, 0 ≤ k → k < l.length → I k env → (∃ e, turn g body er (.tuple [.int k, .int (gt l k)]) env = some (.go e) ∧ I (k + 1) e) ∨ ∃ fl, turn g body er (.tuple [.int k, .int (gt l k)]) env = some (.end fl) ∧ R fl) :
    (∃ e, runFor g body er (enum 0 (li l)) env = some (.nx e) ∧ I l.length e) ∨ ∃ fl, runFor g body er (enum 0 (li l)) env = some fl ∧ R fl := by
  have := for_any (g := g) (body := body) (er := er) (fun i e => I i e) R (enum 0 (li l)) 0 env (by simpa using h) fun i d env a b => by
    obtain ⟨e, h1, rfl⟩ := enum_get a
    rw [li_get] at h1
    have hi : i < l.length := by
      rcases Nat.lt_or_ge i l.length with z | z
      · exact z
      · rw [List.getElem?_eq_none z] at h1; cases h1
    rw [gt_of hi] at h1
    cases h1
    have q := st i env (by omega) (by omega) (by simpa using b)
    simp only [Nat.zero_add]
    rw [show ((i : Nat) : Int) + 1 = ((i + 1 : Nat) : Int) by omega] at q
    exact q
  rw [enum_len, li_len] at this
  simpa using this
/-- over ints, by places -/
theorem for_liR {g : G} {body : SM} {er : List Nat} (I : Int → Env → Prop) (R : Fl → Prop) (l : List Int) (env : Env) (h : I 0 env)
    (st : ∀ (k : Int) env, 0 ≤ k → k < l.length → I k env → (∃ e, turn g body er (.int (gt l k)) env = some (.go e) ∧ I (k + 1) e) ∨ ∃ fl, turn g body er (.int (gt l k)) env = some (.end fl) ∧ R fl) :
    (∃ e, runFor g body er (li l) env = some (.nx e) ∧ I l.length e) ∨ ∃ fl, runFor g body er (li l) env = some fl ∧ R fl := by
  have := for_any (g := g) (body := body) (er := er) (fun i e => I i e) R (li l) 0 env (by simpa using h) fun i d env a b => by
    rw [li_get] at a
    have hi : i < l.length := by
      rcases Nat.lt_or_ge i l.length with z | z
      · exact z
      · rw [List.getElem?_eq_none z] at a; cases a
    rw [gt_of hi] at a
    cases a
    have q := st i env (by omega) (by omega) (by simpa using b)
    simp only [Nat.zero_add]
    rw [show ((i : Nat) : Int) + 1 = ((i + 1 : Nat) : Int) by omega] at q
    exact q
  rw [li_len] at this
  simpa using this
/-! comprehensions -/
def kTl4 (er : List Nat) : Option (D × Env) → Option (Option D × Env)
  | some (y, e) => some (some y, ers er e)
  | none => none
@[simp] theorem kTl4_1 {er : List Nat} {y} {e} : kTl4 er (some (y, e)) = some (some y, ers er e) := (rfl)
@[simp] theorem kTl4_2 {er : List Nat} : kTl4 er (none) = none := (rfl)
def kTl3 (er : List Nat) : Option (RV × Env) → Option (Option D × Env)
  | some (x, e) => kTl4 er (fzv e x)
  | none => none
@[simp] theorem kTl3_1 {er : List Nat} {x} {e} : kTl3 er (some (x, e)) = kTl4 er (fzv e x) := (rfl)
@[simp] theorem kTl3_2 {er : List Nat} : kTl3 er (none) = none := (rfl)
def kTl2 (a : M RV) (er : List Nat) : Option (Bool × Env) → Option (Option D × Env)
  | some (c, e) => if c = true then kTl3 er (a e) else some (none, ers er e)
  | none => none
@[simp] theorem kTl2_1 {a : M RV} {er : List Nat} {c} {e} : kTl2 a er (some (c, e)) = if c = true then kTl3 er (a e) else some (none, ers er e) := (rfl)
@[simp] theorem kTl2_2 {a : M RV} {er : List Nat} : kTl2 a er (none) = none := (rfl)
def kTl1 (t : M Bool) (a : M RV) (er : List Nat) : Option Env → Option (Option D × Env)
  | some e => kTl2 a er (t e)
  | none => none
@[simp] theorem kTl1_1 {t : M Bool} {a : M RV} {er : List Nat} {e} : kTl1 t a er (some e) = kTl2 a er (t e) := (rfl)
@[simp] theorem kTl1_2 {t : M Bool} {a : M RV} {er : List Nat} : kTl1 t a er (none) = none := (rfl)
def turnL (g : G) (t : M Bool) (a : M RV) (er : List Nat) (d : D) (env : Env) : Option (Option D × Env) := kTl1 t a er (g d env)
theorem lc_turn {g : G} {t : M Bool} {a : M RV} {er : List Nat} {d : D} {ds : List D} {env : Env} : runLc g t a er (d :: ds) env = match turnL g t a er d env with
    | some (some y, e) => kRl4 y (runLc g t a er ds e)
    | some (none, e) => runLc g t a er ds e
    | none => none := by
  rw [lc_cons]
  unfold turnL
  cases g d env with
  | none => rfl
  | some e =>
    simp only [kRl, kTl1]
    cases t e with
    | none => rfl
    | some r =>
      obtain ⟨c, e2⟩ := r
      cases c with
      | false => rfl
      | true =>
        simp only [kRl1, kTl2, if_true]
        cases a e2 with
        | none => rfl
        | some r =>
          obtain ⟨x, e3⟩ := r
          simp only [kRl2, kTl3]
          cases fzv e3 x with
          | none => rfl
          | some r => rfl
/-- a comprehension whose turns leave the slots as they were -/
theorem lc_map {g : G} {t : M Bool} {a : M RV} {er : List Nat} {env : Env} {f : D → D} : ∀ {ds : List D}, (∀ d ∈ ds, turnL g t a er d env = some (some (f d), env)) → runLc g t a er ds env = some (ds.map f, env)
  | [], _ => rfl
  | d :: ds, h => by
    rw [lc_turn, h d List.mem_cons_self]
    show kRl4 (f d) (runLc g t a er ds env) = _
    rw [lc_map fun x hx => h x (List.mem_cons_of_mem _ hx)]
    rfl
theorem lc_li {g : G} {t : M Bool} {a : M RV} {er : List Nat} {env : Env} {f : Int → D} {l : List Int} (h : ∀ x ∈ l, turnL g t a er (.int x) env = some (some (f x), env)) : runLc g t a er (li l) env = some (l.map f, env) := by
  have := lc_map (g := g) (t := t) (a := a) (er := er) (env := env) (f := fun d => match d with | .int x => f x | _ => .none) (ds := li l) fun d hd => by
    obtain ⟨x, hx, rfl⟩ := List.mem_map.mp hd
    exact h x hx
  rw [this]
  unfold li
  rw [List.map_map]
  rfl
theorem lc_rng {g : G} {t : M Bool} {a : M RV} {er : List Nat} {env : Env} {f : Int → D} : ∀ (n : Nat) (lo : Int), (∀ k, lo ≤ k → k < lo + n → turnL g t a er (.int k) env = some (some (f k), env)) → runLc g t a er (rngD lo n) env = some ((List.range n).map fun (i : Nat) => f (lo + i), env)
  | 0, lo, _ => rfl
  | n + 1, lo, h => by
    rw [show rngD lo (n + 1) = .int lo :: rngD (lo + 1) n by
      unfold rngD
      rw [List.range_succ_eq_map, List.map_cons, List.map_map]
      congr 1
      · simp
      · apply List.map_congr_left
        intro k _
        simp only [Function.comp]
        congr 1
        omega]
    rw [lc_turn, h lo (Int.le_refl _) (by omega)]
    show kRl4 (f lo) (runLc g t a er (rngD (lo + 1) n) env) = _
    rw [lc_rng n (lo + 1) fun k h0 h1 => h k (by omega) (by omega)]
    rw [List.range_succ_eq_map, List.map_cons, List.map_map]
    show some (f lo :: _, env) = some (f (lo + (0 : Nat)) :: _, env)
    congr 2
    congr 1
    · simp
    · apply List.map_congr_left
      intro k _
      simp only [Function.comp]
      congr 1
      omega
@[simp] theorem asBools_map {α : Type} (f : α → Bool) (l : List α) : asBools (l.map fun x => .bool (f x)) = some (l.map f) := by
  induction l with
  | nil => rfl
  | cons a l ih => simp [asBools, ih]
@[simp] theorem asInts_map {α : Type} (f : α → Int) (l : List α) : asInts (l.map fun x => .int (f x)) = some (l.map f) := by
  induction l with
  | nil => rfl
  | cons a l ih => simp [asInts, ih]
def kU4 (er : List Nat) : Option (List D × Env) → Option (List D × Env)
  | some (ys, e) => some (ys, ers er e)
  | none => none
@[simp] theorem kU4_1 {er : List Nat} {ys} {e} : kU4 er (some (ys, e)) = some (ys, ers er e) := (rfl)
@[simp] theorem kU4_2 {er : List Nat} : kU4 er (none) = none := (rfl)
def kU3 (g1 : G) (t1 : M Bool) (a : M RV) (er er1 : List Nat) : Option (List D × Env) → Option (List D × Env)
  | some (xs, e) => kU4 er (runLc g1 t1 a er1 xs (ers er1 e))
  | none => none
@[simp] theorem kU3_1 {g1 : G} {t1 : M Bool} {a : M RV} {er : List Nat} {er1 : List Nat} {xs} {e} : kU3 g1 t1 a er er1 (some (xs, e)) = kU4 er (runLc g1 t1 a er1 xs (ers er1 e)) := (rfl)
@[simp] theorem kU3_2 {g1 : G} {t1 : M Bool} {a : M RV} {er : List Nat} {er1 : List Nat} : kU3 g1 t1 a er er1 (none) = none := (rfl)
def kU2 (it1 : M (List D)) (g1 : G) (t1 : M Bool) (a : M RV) (er er1 : List Nat) : Option (Bool × Env) → Option (List D × Env)
  | some (c, e) => if c = true then kU3 g1 t1 a er er1 (it1 e) else some ([], ers er e)
  | none => none
@[simp] theorem kU2_1 {it1 : M (List D)} {g1 : G} {t1 : M Bool} {a : M RV} {er : List Nat} {er1 : List Nat} {c} {e} : kU2 it1 g1 t1 a er er1 (some (c, e)) = if c = true then kU3 g1 t1 a er er1 (it1 e) else some ([], ers er e) := (rfl)
@[simp] theorem kU2_2 {it1 : M (List D)} {g1 : G} {t1 : M Bool} {a : M RV} {er : List Nat} {er1 : List Nat} : kU2 it1 g1 t1 a er er1 (none) = none := (rfl)
def kU1 (t : M Bool) (it1 : M (List D)) (g1 : G) (t1 : M Bool) (a : M RV) (er er1 : List Nat) : Option Env → Option (List D × Env)
  | some e => kU2 it1 g1 t1 a er er1 (t e)
  | none => none
@[simp] theorem kU1_1 {t : M Bool} {it1 : M (List D)} {g1 : G} {t1 : M Bool} {a : M RV} {er : List Nat} {er1 : List Nat} {e} : kU1 t it1 g1 t1 a er er1 (some e) = kU2 it1 g1 t1 a er er1 (t e) := (rfl)
@[simp] theorem kU1_2 {t : M Bool} {it1 : M (List D)} {g1 : G} {t1 : M Bool} {a : M RV} {er : List Nat} {er1 : List Nat} : kU1 t it1 g1 t1 a er er1 (none) = none := (rfl)
/-- one turn of the outer for -/
def turn2 (g : G) (t : M Bool) (it1 : M (List D)) (g1 : G) (t1 : M Bool) (a : M RV) (er er1 : List Nat) (d : D) (env : Env) : Option (List D × Env) := kU1 t it1 g1 t1 a er er1 (g d env)
def kUa (ys : List D) : Option (List D × Env) → Option (List D × Env)
  | some (zs, e) => some (ys ++ zs, e)
  | none => none
@[simp] theorem kUa_1 {ys : List D} {zs} {e} : kUa ys (some (zs, e)) = some (ys ++ zs, e) := (rfl)
@[simp] theorem kUa_2 {ys : List D} : kUa ys (none) = none := (rfl)
theorem lc2_turn {g : G} {t : M Bool} {it1 : M (List D)} {g1 : G} {t1 : M Bool} {a : M RV} {er er1 : List Nat} {d : D} {ds : List D} {env : Env} : runLc2 g t it1 g1 t1 a er er1 (d :: ds) env = match turn2 g t it1 g1 t1 a er er1 d env with
    | some (ys, e) => kUa ys (runLc2 g t it1 g1 t1 a er er1 ds e)
    | none => none := by
  conv => lhs; unfold runLc2
  unfold turn2
  cases g d env with
  | none => rfl
  | some e =>
    simp only [kU1]
    cases t e with
    | none => rfl
    | some r =>
      obtain ⟨c, e2⟩ := r
      cases c with
      | false =>
        simp only [kU2, Bool.false_eq_true, if_false]
        cases runLc2 g t it1 g1 t1 a er er1 ds (ers er e2) with
        | none => rfl
        | some r => rfl
      | true =>
        simp only [kU2, if_true]
        cases it1 e2 with
        | none => rfl
        | some r =>
          obtain ⟨xs, e3⟩ := r
          simp only [kU3]
          cases runLc g1 t1 a er1 xs (ers er1 e3) with
          | none => rfl
          | some r =>
            obtain ⟨ys, e4⟩ := r
            simp only [kU4]
            cases runLc2 g t it1 g1 t1 a er er1 ds (ers er e4) with
            | none => rfl
            | some r => rfl
theorem lc2_flat {g : G} {t : M Bool} {it1 : M (List D)} {g1 : G} {t1 : M Bool} {a : M RV} {er er1 : List Nat} {env : Env} {f : D → List D} : ∀ {ds : List D}, (∀ d ∈ ds, turn2 g t it1 g1 t1 a er er1 d env = some (f d, env)) → runLc2 g t it1 g1 t1 a er er1 ds env = some ((ds.map f).flatten, env)
  | [], _ => by unfold runLc2; rfl
  | d :: ds, h => by
    rw [lc2_turn, h d List.mem_cons_self]
    show kUa (f d) (runLc2 g t it1 g1 t1 a er er1 ds env) = _
    rw [lc2_flat fun x hx => h x (List.mem_cons_of_mem _ hx)]
    rfl
def kLcE : Option (List D × Env) → Option (RV × Env)
  | some (ys, e) => if ys.length ≤ limit then some (.tm ys, e) else none
  | none => none
@[simp] theorem kLcE_1 {ys} {e} : kLcE (some (ys, e)) = if ys.length ≤ limit then some (.tm ys, e) else none := (rfl)
@[simp] theorem kLcE_2  : kLcE (none) = none := (rfl)
def kLcD (er er1 : List Nat) (g : G) (t : M Bool) (g1 : G) (it1 : M (List D)) (t1 : M Bool) (a : M RV) : Option (List D × Env) → Option (RV × Env)
  | some (ds, e) => kLcE (runLc2 g t it1 g1 t1 a er er1 ds (ers er e))
  | none => none
@[simp] theorem kLcD_1 {er : List Nat} {er1 : List Nat} {g : G} {t : M Bool} {g1 : G} {it1 : M (List D)} {t1 : M Bool} {a : M RV} {ds} {e} : kLcD er er1 g t g1 it1 t1 a (some (ds, e)) = kLcE (runLc2 g t it1 g1 t1 a er er1 ds (ers er e)) := (rfl)
@[simp] theorem kLcD_2 {er : List Nat} {er1 : List Nat} {g : G} {t : M Bool} {g1 : G} {it1 : M (List D)} {t1 : M Bool} {a : M RV} : kLcD er er1 g t g1 it1 t1 a (none) = none := (rfl)
@[simp] theorem q_lc2 {er er1 : List Nat} {g : G} {it : M (List D)} {t : M Bool} {g1 : G} {it1 : M (List D)} {t1 : M Bool} {a : M RV} {env : Env} : eLc2 er er1 g it t g1 it1 t1 a env = kLcD er er1 g t g1 it1 t1 a (it env) := by
  unfold eLc2
  cases it env with
  | none => rfl
  | some r =>
    obtain ⟨ds, e⟩ := r
    simp only [kLcD]
    cases runLc2 g t it1 g1 t1 a er er1 ds (ers er e) <;> rfl
/-! cuts -/
theorem cut_nn {α : Type} (l : List α) {a b : Int} (h0 : 0 ≤ a) (h1 : a ≤ b) (h2 : b ≤ l.length) : cutD l (some a) (some b) = (l.drop a.toNat).take (b - a).toNat := by
  unfold cutD sIx
  simp only [if_neg (show ¬ a < 0 by omega), if_neg (show ¬ b < 0 by omega)]
  rw [Nat.min_eq_left (by omega), Nat.min_eq_left (by omega)]
  congr 1
  omega
theorem cut_to {α : Type} (l : List α) {b : Int} (h1 : 0 ≤ b) (h2 : b ≤ l.length) : cutD l none (some b) = l.take b.toNat := by
  unfold cutD sIx
  simp only [if_neg (show ¬ b < 0 by omega)]
  rw [Nat.min_eq_left (by omega)]
  simp
theorem cut_from {α : Type} (l : List α) {a : Int} (h1 : 0 ≤ a) (h2 : a ≤ l.length) : cutD l (some a) none = l.drop a.toNat := by
  unfold cutD sIx
  simp only [if_neg (show ¬ a < 0 by omega)]
  rw [Nat.min_eq_left (by omega), List.take_of_length_le (by simp)]
theorem mem_gt {l : List Int} {x : Int} : x ∈ l ↔ ∃ k : Int, 0 ≤ k ∧ k < l.length ∧ gt l k = x := by
  constructor
  · intro h
    obtain ⟨i, hi, e⟩ := List.mem_iff_getElem.mp h
    refine ⟨i, by omega, by omega, ?_⟩
    have := gt_of hi
    rw [List.getElem?_eq_getElem hi] at this
    rw [← e]
    exact (Option.some.inj this).symm
  · rintro ⟨k, h0, h1, e⟩
    have := gt_of' h0 h1
    rw [← e]
    exact List.mem_of_getElem? this
theorem gt_cut {l : List Int} {a b k : Int} (h0 : 0 ≤ a) (h1 : a ≤ b) (h2 : b ≤ l.length) (hk : 0 ≤ k) (hk2 : k < b - a) : gt ((l.drop a.toNat).take (b - a).toNat) k = gt l (a + k) := by
  unfold gt
  rw [List.getD_eq_getElem?_getD, List.getD_eq_getElem?_getD, List.getElem?_take_of_lt (by omega), List.getElem?_drop]
  congr 3
  omega
theorem mem_cut {l : List Int} {a b x : Int} (h0 : 0 ≤ a) (h1 : a ≤ b) (h2 : b ≤ l.length) : x ∈ (l.drop a.toNat).take (b - a).toNat ↔ ∃ k : Int, a ≤ k ∧ k < b ∧ gt l k = x := by
  rw [mem_gt]
  have hl : ((l.drop a.toNat).take (b - a).toNat).length = (b - a).toNat := by simp; omega
  rw [hl]
  constructor
  · rintro ⟨k, k0, k1, e⟩
    rw [gt_cut h0 h1 h2 k0 (by omega)] at e
    exact ⟨a + k, by omega, by omega, e⟩
  · rintro ⟨k, k0, k1, e⟩
    refine ⟨k - a, by omega, by omega, ?_⟩
    rw [gt_cut h0 h1 h2 (by omega) (by omega), show a + (k - a) = k by omega]
    exact e
/-! a pair stored at two places -/
def kS14 (i : Nat) (d : D) (e : Env) (ds : List D) : Option Nat → Option Env
  | some j => some (e.set i (.ow (ds.set j d)))
  | none => none
@[simp] theorem kS14_1 {i : Nat} {d : D} {e : Env} {ds : List D} {j} : kS14 i d e ds (some j) = some (e.set i (.ow (ds.set j d))) := (rfl)
@[simp] theorem kS14_2 {i : Nat} {d : D} {e : Env} {ds : List D} : kS14 i d e ds (none) = none := (rfl)
def kS13 (i : Nat) (d : D) (k : Int) (e : Env) : Option Sl → Option Env
  | some (.ow ds) => kS14 i d e ds (ixN ds.length k)
  | _ => none
@[simp] theorem kS13_1 {i : Nat} {d : D} {k : Int} {e : Env} {ds} : kS13 i d k e (some (.ow ds)) = kS14 i d e ds (ixN ds.length k) := (rfl)
def kS12 (i : Nat) (d : D) : Option (RV × Env) → Option Env
  | some (.fz (.int k), e) => kS13 i d k e (e[i]?)
  | _ => none
@[simp] theorem kS12_1 {i : Nat} {d : D} {k} {e} : kS12 i d (some (.fz (.int k), e)) = kS13 i d k e (e[i]?) := (rfl)
def kS11 (i : Nat) (ie : M RV) (d : D) (e : Env) : Option Sl → Option Env
  | some (.ow _) => kS12 i d (ie e)
  | _ => none
@[simp] theorem kS11_1 {i : Nat} {ie : M RV} {d : D} {e : Env} {u0_0} : kS11 i ie d e (some (.ow u0_0)) = kS12 i d (ie e) := (rfl)
@[simp] theorem q_st1 {i : Nat} {ie : M RV} {d : D} {env : Env} : st1 i ie d env = kS11 i ie d env (env[i]?) := by
  unfold st1
  cases env[i]? with
  | none => rfl
  | some s =>
    cases s with
    | ow _ =>
      simp only [kS11]
      cases ie env with
      | none => rfl
      | some r =>
        obtain ⟨y, e3⟩ := r
        cases y with
        | fz y =>
          cases y with
          | int k =>
            simp only [kS12]
            cases e3[i]? with
            | none => rfl
            | some s =>
              cases s with
              | ow ds =>
                simp only [kS13]
                cases ixN ds.length k <;> rfl
              | _ => rfl
          | _ => rfl
        | _ => rfl
    | _ => rfl
def kPS3 : Option Env → Option Fl
  | some e => some (.nx e)
  | none => none
@[simp] theorem kPS3_1 {e} : kPS3 (some e) = some (.nx e) := (rfl)
@[simp] theorem kPS3_2  : kPS3 (none) = none := (rfl)
def kPS2 (j : Nat) (ib : M RV) (d : D) : Option Env → Option Fl
  | some e => kPS3 (st1 j ib d e)
  | none => none
@[simp] theorem kPS2_1 {j : Nat} {ib : M RV} {d : D} {e} : kPS2 j ib d (some e) = kPS3 (st1 j ib d e) := (rfl)
@[simp] theorem kPS2_2 {j : Nat} {ib : M RV} {d : D} : kPS2 j ib d (none) = none := (rfl)
def kPS (i : Nat) (ia : M RV) (j : Nat) (ib : M RV) : Option (List D × Env) → Option Fl
  | some ([d1, d2], e) => kPS2 j ib d2 (st1 i ia d1 e)
  | _ => none
@[simp] theorem kPS_1 {i : Nat} {ia : M RV} {j : Nat} {ib : M RV} {d1} {d2} {e} : kPS i ia j ib (some ([d1, d2], e)) = kPS2 j ib d2 (st1 i ia d1 e) := (rfl)
@[simp] theorem q_ps {i j : Nat} {ia ib : M RV} {es : M (List D)} {env : Env} : sPS i ia j ib es env = kPS i ia j ib (es env) := by
  unfold sPS
  cases es env with
  | none => rfl
  | some r =>
    obtain ⟨ds, e⟩ := r
    match ds with
    | [] => rfl
    | [_] => rfl
    | [d1, d2] =>
      simp only [kPS]
      cases st1 i ia d1 e with
      | none => rfl
      | some e1 =>
        simp only [kPS2]
        cases st1 j ib d2 e1 <;> rfl
    | _ :: _ :: _ :: _ => rfl
/-! range(a, b, -1) -/
def kR3c (m n : Int) : Option (RV × Env) → Option (List D × Env)
  | some (.fz (.int s), e) => if s = -1 ∧ (-big ≤ m ∧ m < big) ∧ -big ≤ n ∧ n < big then some (rngM m (m - n).toNat, e) else none
  | _ => none
theorem kR3c_1 {m : Int} {n : Int} {s} {e} : kR3c m n (some (.fz (.int s), e)) = if s = -1 ∧ (-big ≤ m ∧ m < big) ∧ -big ≤ n ∧ n < big then some (rngM m (m - n).toNat, e) else none := (rfl)
def kR3b (m : Int) (c : M RV) : Option (RV × Env) → Option (List D × Env)
  | some (.fz (.int n), e) => kR3c m n (c e)
  | _ => none
@[simp] theorem kR3b_1 {m : Int} {c : M RV} {n} {e} : kR3b m c (some (.fz (.int n), e)) = kR3c m n (c e) := (rfl)
def kR3 (b c : M RV) : Option (RV × Env) → Option (List D × Env)
  | some (.fz (.int m), e) => kR3b m c (b e)
  | _ => none
@[simp] theorem kR3_1 {b : M RV} {c : M RV} {m} {e} : kR3 b c (some (.fz (.int m), e)) = kR3b m c (b e) := (rfl)
@[simp] theorem q_r3 {a b c : M RV} {env : Env} : itR3 a b c env = kR3 b c (a env) := by
  unfold itR3
  cases a env with
  | none => rfl
  | some r =>
    obtain ⟨x, e⟩ := r
    cases x with
    | fz d =>
      cases d with
      | int m =>
        simp only [kR3]
        cases b e with
        | none => rfl
        | some r =>
          obtain ⟨y, e2⟩ := r
          cases y with
          | fz d =>
            cases d with
            | int n =>
              simp only [kR3b]
              cases c e2 with
              | none => rfl
              | some r =>
                obtain ⟨z, e3⟩ := r
                cases z with
                | fz d =>
                  cases d <;> rfl
                | _ => rfl
            | _ => rfl
          | _ => rfl
      | _ => rfl
    | _ => rfl
@[simp] theorem r3I {m n : Int} {e : Env} (h1 : -4611686018427387904 ≤ n) (h2 : n < 4611686018427387904) (h3 : -4611686018427387904 ≤ m) (h4 : m < 4611686018427387904) : kR3c m n (some (.fz (.int (-1)), e)) = some (rngM m (m - n).toNat, e) := by
  show (if _ then _ else _) = _
  rw [if_pos ⟨rfl, ⟨h3, h4⟩, h1, h2⟩]
theorem rngM_zero (lo : Int) : rngM lo 0 = [] := (rfl)
theorem rngM_succ (lo : Int) (n : Nat) : rngM lo (n + 1) = .int lo :: rngM (lo - 1) n := by
  unfold rngM
  rw [List.range_succ_eq_map, List.map_cons, List.map_map]
  congr 1
  · simp
  · apply List.map_congr_left
    intro k _
    simp
    omega
/-- a loop over a falling range keeps a property, which may hang on the number of the turn -/
theorem for_rngM {g : G} {body : SM} {er : List Nat} (I : Nat → Env → Prop) (lo : Int) : ∀ (n i : Nat) (env : Env), I i env →
    (∀ (k : Nat) (env : Env), i ≤ k → k < i + n → I k env → ∃ e, turn g body er (.int (lo - (k : Nat))) env = some (.go e) ∧ I (k + 1) e) →
    ∃ e, runFor g body er (rngM (lo - (i : Nat)) n) env = some (.nx e) ∧ I (i + n) e
  | 0, i, env, h, _ => ⟨env, for_nil, h⟩
  | n + 1, i, env, h, ht => by
    obtain ⟨e, h1, h2⟩ := ht i env (Nat.le_refl _) (by omega) h
    obtain ⟨e2, h3, h4⟩ := for_rngM I lo n (i + 1) e h2 fun k env k0 k1 => ht k env (by omega) (by omega)
    refine ⟨e2, ?_, by rw [show i + (n + 1) = i + 1 + n by omega]; exact h4⟩
    rw [rngM_succ, for_go h1, show lo - ((i : Nat) : Int) - 1 = lo - ((i + 1 : Nat) : Int) by omega]
    exact h3
/-! in -/
theorem any_beq (x : Int) (l : List Int) : ((li l).any fun y => beqD y (.int x)) = decide (x ∈ l) := by
  induction l with
  | nil => simp
  | cons y l ih =>
    rw [li_cons, List.any_cons, ih, beqD_int]
    by_cases c : y = x
    · subst c; simp
    · have : x ≠ y := fun z => c z.symm
      simp [c, this]
theorem li_flt (l : List Int) : (li l).all flt = true := by
  unfold li
  rw [List.all_map, List.all_eq_true]
  intro x _
  rfl
@[simp] theorem inL {x : Int} {l : List Int} : inD (.int x) (.list (li l)) = some (.fz (.bool (decide (x ∈ l)))) := by
  unfold inD
  rw [seqD_1]
  simp only
  rw [if_pos ⟨rfl, li_flt l⟩, any_beq]
@[simp] theorem inT {x : Int} {l : List Int} : inD (.int x) (.tuple (li l)) = some (.fz (.bool (decide (x ∈ l)))) := by
  unfold inD
  rw [seqD_2]
  simp only
  rw [if_pos ⟨rfl, li_flt l⟩, any_beq]
@[simp] theorem notInL {x : Int} {l : List Int} : notInD (.int x) (.list (li l)) = some (.fz (.bool (!decide (x ∈ l)))) := by
  unfold notInD
  rw [seqD_1]
  simp only
  rw [if_pos ⟨rfl, li_flt l⟩, any_beq]
@[simp] theorem notInT {x : Int} {l : List Int} : notInD (.int x) (.tuple (li l)) = some (.fz (.bool (!decide (x ∈ l)))) := by
  unfold notInD
  rw [seqD_2]
  simp only
  rw [if_pos ⟨rfl, li_flt l⟩, any_beq]
/-! texts -/
theorem shS {n : Nat} {a : Str} (ha : a.cps.all (· < 0x110000) = true) : shp n (.str a) = true := by
  rw [shp_str]
  exact ha
theorem beS {a b : Str} {c : Bool} (hc : (a == b) = c) : beqD (.str a) (.str b) = c := by
  subst hc
  simp [beqD]
/-! t.count(x) -/
def kCntB (ds : List D) : Option (RV × Env) → Option (RV × Env)
  | some (.fz d, e) => if flt d = true ∧ ds.all flt = true then some (.fz (.int ((ds.countP fun x => beqD x d : Nat) : Int)), e) else none
  | _ => none
def kCnt (b : M RV) : Option (RV × Env) → Option (RV × Env)
  | some (.fz (.tuple ds), e) => kCntB ds (b e)
  | _ => none
@[simp] theorem kCnt_1 {b : M RV} {ds} {e} : kCnt b (some (.fz (.tuple ds), e)) = kCntB ds (b e) := (rfl)
@[simp] theorem q_cnt {a b : M RV} {env : Env} : eCnt a b env = kCnt b (a env) := by
  unfold eCnt
  cases a env with
  | none => rfl
  | some r =>
    obtain ⟨x, e⟩ := r
    cases x with
    | fz d =>
      cases d with
      | tuple ds =>
        simp only [kCnt]
        cases b e with
        | none => rfl
        | some r =>
          obtain ⟨y, e2⟩ := r
          cases y <;> rfl
      | _ => rfl
    | _ => rfl
theorem count_beq (x : Int) (l : List Int) : ((li l).countP fun y => beqD y (.int x)) = l.count x := by
  induction l with
  | nil => rfl
  | cons y l ih =>
    rw [li_cons, List.countP_cons, ih, beqD_int, List.count_cons]
    simp
@[simp] theorem kCntI {x : Int} {l : List Int} {e : Env} : kCntB (li l) (some (.fz (.int x), e)) = some (.fz (.int ((l.count x : Nat) : Int)), e) := by
  show (if _ then _ else _) = _
  rw [if_pos ⟨rfl, li_flt l⟩, count_beq]
/-! x.pop(k) -/
def kPopA (i : Nat) : Option (RV × Env) → Option (RV × Env)
  | some (.fz (.int n), e1) => match e1[i]? with
    | some (.ow ds) => if 0 ≤ n then (match ds[n.toNat]? with
      | some d => if n < big then some (.fz d, e1.set i (.ow (ds.eraseIdx n.toNat))) else none
      | none => none) else none
    | _ => none
  | _ => none
theorem q_popA {i : Nat} {k : M RV} {env : Env} {es : List D} (h : env[i]? = some (.ow es)) : ePopA i k env = kPopA i (k env) := by
  unfold ePopA
  rw [h]
  simp only
  cases k env with
  | none => rfl
  | some r =>
    obtain ⟨y, e2⟩ := r
    cases y with
    | fz d => cases d <;> rfl
    | _ => rfl
theorem popA_go {i : Nat} {n : Int} {e : Env} {ds : List D} {d : D} (h : e[i]? = some (.ow ds)) (h0 : 0 ≤ n) (h1 : n < 4611686018427387904) (h2 : ds[n.toNat]? = some d) : kPopA i (some (.fz (.int n), e)) = some (.fz d, e.set i (.ow (ds.eraseIdx n.toNat))) := by
  show (match e[i]? with | some (.ow ds) => _ | _ => _) = _
  rw [h]
  simp only
  rw [if_pos h0, h2]
  simp only
  rw [if_pos (show n < big from h1)]
/-! str(i), a < b < c -/
theorem strI {i : Int} (h : i.natAbs < 2 ^ 1000) : strD (.int i) = some (.fz (.str (toString i))) := if_pos h
theorem ch_go {g h : D → D → Option Rt} {a b c : M RV} {env e1 e2 e3 : Env} {i j l : Int} {k m : Bool} (ha : a env = some (.fz (.int i), e1)) (hb : b e1 = some (.fz (.int j), e2)) (hg : g (.int i) (.int j) = some (.fz (.bool k)))
    (hc : c e2 = some (.fz (.int l), e3)) (hh : h (.int j) (.int l) = some (.fz (.bool m))) : tCh g h a b c env = some (if k = true then (m, e3) else (false, e2)) := by
  unfold tCh
  simp only [ha, hb, hg, hc, hh]
  by_cases z : k = true
  · rw [if_pos z, if_pos z]
  · rw [if_neg z, if_neg z]
/-! things with parts -/
@[simp] theorem mvO_1 {env : Env} {d} : mvO env (.fz d) = some (.fz d, env) := (rfl)
@[simp] theorem mvO_2 {env : Env} {ds} : mvO env (.tm ds) = some (.fl ds, env) := (rfl)
@[simp] theorem mvO_3 {env : Env} {o} : mvO env (.nt o) = some (o, env) := (rfl)
def kMvS (i : Nat) (e : Env) : Option Sl → Option (Ob × Env)
  | some (.ow ds) => some (.fl ds, e.set i .no)
  | some (.nt o) => some (o, e.set i .no)
  | _ => none
@[simp] theorem kMvS_1 {i : Nat} {e : Env} {ds} : kMvS i e (some (.ow ds)) = some (.fl ds, e.set i .no) := (rfl)
@[simp] theorem kMvS_2 {i : Nat} {e : Env} {o} : kMvS i e (some (.nt o)) = some (o, e.set i .no) := (rfl)
@[simp] theorem mvO_4 {env : Env} {i} : mvO env (.sl i) = kMvS i env (env[i]?) := by
  show (match env[i]? with | some (.ow ds) => _ | some (.nt o) => _ | _ => _) = _
  cases env[i]? with
  | none => rfl
  | some s => cases s <;> rfl
def kNc3 (o : Ob) : Option (List Ob × Env) → Option (List Ob × Env)
  | some (os, e) => some (o :: os, e)
  | none => none
@[simp] theorem kNc3_1 {o : Ob} {os} {e} : kNc3 o (some (os, e)) = some (o :: os, e) := (rfl)
@[simp] theorem kNc3_2 {o : Ob} : kNc3 o none = none := (rfl)
def kNc2 (r : M (List Ob)) : Option (Ob × Env) → Option (List Ob × Env)
  | some (o, e) => kNc3 o (r e)
  | none => none
@[simp] theorem kNc2_1 {r : M (List Ob)} {o} {e} : kNc2 r (some (o, e)) = kNc3 o (r e) := (rfl)
@[simp] theorem kNc2_2 {r : M (List Ob)} : kNc2 r none = none := (rfl)
def kNc (r : M (List Ob)) : Option (RV × Env) → Option (List Ob × Env)
  | some (x, e) => kNc2 r (mvO e x)
  | none => none
@[simp] theorem kNc_1 {r : M (List Ob)} {x} {e} : kNc r (some (x, e)) = kNc2 r (mvO e x) := (rfl)
@[simp] theorem kNc_2 {r : M (List Ob)} : kNc r none = none := (rfl)
@[simp] theorem q_nc {a : M RV} {r : M (List Ob)} {env : Env} : nCons a r env = kNc r (a env) := by
  unfold nCons
  cases a env with
  | none => rfl
  | some q =>
    obtain ⟨x, e⟩ := q
    simp only [kNc]
    cases mvO e x with
    | none => rfl
    | some q =>
      obtain ⟨o, e2⟩ := q
      simp only [kNc2]
      cases r e2 <;> rfl
def kNT : Option (List Ob × Env) → Option (Ob × Env)
  | some (os, e) => some (.tp os, e)
  | none => none
@[simp] theorem kNT_1 {os} {e} : kNT (some (os, e)) = some (.tp os, e) := (rfl)
@[simp] theorem kNT_2 : kNT none = none := (rfl)
@[simp] theorem q_nT {r : M (List Ob)} {env : Env} : eNT r env = kNT (r env) := by
  unfold eNT
  cases r env <;> rfl
def kNL : Option (List Ob × Env) → Option (Ob × Env)
  | some (os, e) => some (.ls os, e)
  | none => none
@[simp] theorem kNL_1 {os} {e} : kNL (some (os, e)) = some (.ls os, e) := (rfl)
@[simp] theorem kNL_2 : kNL none = none := (rfl)
@[simp] theorem q_nL {r : M (List Ob)} {env : Env} : eNL r env = kNL (r env) := by
  unfold eNL
  cases r env <;> rfl
def kRetO : Option (Ob × Env) → Option Fl
  | some (o, e) => some (.rt (.nt o) e)
  | none => none
@[simp] theorem kRetO_1 {o} {e} : kRetO (some (o, e)) = some (.rt (.nt o) e) := (rfl)
@[simp] theorem kRetO_2 : kRetO none = none := (rfl)
@[simp] theorem q_retO {f : M Ob} {env : Env} : sRetO f env = kRetO (f env) := by
  unfold sRetO
  cases f env <;> rfl
def kAsgO (i : Nat) : Option (Ob × Env) → Option Fl
  | some (o, e) => some (.nx (e.set i (.nt o)))
  | none => none
@[simp] theorem kAsgO_1 {i : Nat} {o} {e} : kAsgO i (some (o, e)) = some (.nx (e.set i (.nt o))) := (rfl)
@[simp] theorem kAsgO_2 {i : Nat} : kAsgO i none = none := (rfl)
@[simp] theorem q_asgO {i : Nat} {f : M Ob} {env : Env} : sAsgO i f env = kAsgO i (f env) := by
  unfold sAsgO
  cases f env <;> rfl
def kMvI (i j : Nat) (env : Env) : Option Ob → Option Fl
  | some (.fl ds) => some (.nx ((env.set j .no).set i (.ow ds)))
  | some (.fz d) => some (.nx ((env.set j .no).set i (.fz d)))
  | some o => some (.nx ((env.set j .no).set i (.nt o)))
  | none => none
@[simp] theorem kMvI_1 {i j : Nat} {env : Env} {ds} : kMvI i j env (some (.fl ds)) = some (.nx ((env.set j .no).set i (.ow ds))) := (rfl)
@[simp] theorem kMvI_2 {i j : Nat} {env : Env} {d} : kMvI i j env (some (.fz d)) = some (.nx ((env.set j .no).set i (.fz d))) := (rfl)
def kMvT (i j k : Nat) (env : Env) : Option Sl → Option Fl
  | some (.nt (.tp its)) => kMvI i j env (its[k]?)
  | _ => none
@[simp] theorem kMvT_1 {i j k : Nat} {env : Env} {its} : kMvT i j k env (some (.nt (.tp its))) = kMvI i j env (its[k]?) := (rfl)
@[simp] theorem q_mv {i j k : Nat} {env : Env} : sMv i j k env = kMvT i j k env (env[j]?) := by
  unfold sMv
  cases env[j]? with
  | none => rfl
  | some s =>
    cases s with
    | nt o =>
      cases o with
      | tp its =>
        simp only [kMvT]
        cases its[k]? with
        | none => rfl
        | some o => cases o <;> rfl
      | _ => rfl
    | _ => rfl
@[simp] theorem er_1 {d : D} : er (.fz d) = d := by simp only [er]
@[simp] theorem er_2 {ds : List D} : er (.fl ds) = .list ds := by simp only [er]
@[simp] theorem er_3 {os : List Ob} : er (.ls os) = .list (erA os) := by simp only [er]
@[simp] theorem er_4 {os : List Ob} : er (.tp os) = .tuple (erA os) := by simp only [er]
@[simp] theorem er_5 {kvs : List (D × D)} : er (.dc kvs) = .dict kvs := by simp only [er]
@[simp] theorem erA_1 : erA [] = [] := by simp only [erA]
@[simp] theorem erA_2 {o : Ob} {os : List Ob} : erA (o :: os) = er o :: erA os := by simp only [erA]
@[simp] theorem slD_fz {d : D} : slD' (.fz d) = some d := (rfl)
@[simp] theorem slD_ow {d : List D} : slD' (.ow d) = some (.list d) := (rfl)
@[simp] theorem slD_bw {d : List D} : slD' (.bw d) = some (.list d) := (rfl)
@[simp] theorem slD_nt {o : Ob} : slD' (.nt o) = some (er o) := (rfl)
@[simp] theorem slD_no : slD' .no = none := (rfl)
@[simp] theorem slD_sc {d : List D} : slD' (.sc d) = none := (rfl)
@[simp] theorem itL_d {env : Env} {d : D} : itL env (.d d) = some d := (rfl)
@[simp] theorem itL_r {env : Env} {i : Nat} : itL env (.r i) = match env[i]? with
    | some s => slD' s
    | none => none := (rfl)
@[simp] theorem itL_m {env : Env} {i : Nat} : itL env (.m i) = none := (rfl)
@[simp] theorem itL_s {env : Env} {i : Nat} : itL env (.s i) = none := (rfl)
@[simp] theorem itLs_1 {env : Env} : itLs env [] = some [] := (rfl)
@[simp] theorem itLs_2 {env : Env} {x : It} {r : List It} : itLs env (x :: r) = match itL env x, itLs env r with
    | some d, some ds => some (d :: ds)
    | _, _ => none := (rfl)
def kEl3 (x : It) : Option (List It × Env) → Option (List It × Env)
  | some (l, e) => some (x :: l, e)
  | none => none
@[simp] theorem kEl3_1 {x : It} {l} {e} : kEl3 x (some (l, e)) = some (x :: l, e) := (rfl)
@[simp] theorem kEl3_2 {x : It} : kEl3 x none = none := (rfl)
def kEl2 (r : List LAr) : Option (D × Env) → Option (List It × Env)
  | some (d, e) => kEl3 (.d d) (evL r e)
  | none => none
@[simp] theorem kEl2_1 {r : List LAr} {d} {e} : kEl2 r (some (d, e)) = kEl3 (.d d) (evL r e) := (rfl)
@[simp] theorem kEl2_2 {r : List LAr} : kEl2 r none = none := (rfl)
def kEl (r : List LAr) : Option (RV × Env) → Option (List It × Env)
  | some (x, e) => kEl2 r (fzv e x)
  | none => none
@[simp] theorem kEl_1 {r : List LAr} {x} {e} : kEl r (some (x, e)) = kEl2 r (fzv e x) := (rfl)
@[simp] theorem kEl_2 {r : List LAr} : kEl r none = none := (rfl)
@[simp] theorem q_el0 {env : Env} : evL [] env = some ([], env) := by unfold evL; rfl
@[simp] theorem q_ele {f : M RV} {r : List LAr} {env : Env} : evL (.e f :: r) env = kEl r (f env) := by
  rw [evL]
  cases f env with
  | none => rfl
  | some q =>
    obtain ⟨x, e⟩ := q
    simp only [kEl]
    cases fzv e x with
    | none => rfl
    | some q =>
      obtain ⟨d, e2⟩ := q
      simp only [kEl2]
      cases evL r e2 <;> rfl
def kElV (i : Nat) (r : List LAr) (env : Env) : Option Sl → Option (List It × Env)
  | some (.fz _) => kEl3 (.r i) (evL r env)
  | some (.ow _) => kEl3 (.r i) (evL r env)
  | some (.bw _) => kEl3 (.r i) (evL r env)
  | some (.nt _) => kEl3 (.r i) (evL r env)
  | _ => none
@[simp] theorem kElV_1 {i : Nat} {r : List LAr} {env : Env} {d} : kElV i r env (some (.fz d)) = kEl3 (.r i) (evL r env) := (rfl)
@[simp] theorem kElV_2 {i : Nat} {r : List LAr} {env : Env} {d} : kElV i r env (some (.ow d)) = kEl3 (.r i) (evL r env) := (rfl)
@[simp] theorem kElV_3 {i : Nat} {r : List LAr} {env : Env} {d} : kElV i r env (some (.bw d)) = kEl3 (.r i) (evL r env) := (rfl)
@[simp] theorem kElV_4 {i : Nat} {r : List LAr} {env : Env} {d} : kElV i r env (some (.nt d)) = kEl3 (.r i) (evL r env) := (rfl)
@[simp] theorem q_elv {i : Nat} {r : List LAr} {env : Env} : evL (.v i :: r) env = kElV i r env (env[i]?) := by
  rw [evL]
  cases env[i]? with
  | none => rfl
  | some s =>
    cases s <;> simp only [kElV] <;> (cases evL r env <;> rfl)
def kCL2 (e : Env) : Option (Rt × List (List D)) → Option (RV × Env)
  | some (.fz d, []) => if flt d = true then some (.fz d, e) else none
  | _ => none
@[simp] theorem kCL2_1 {e : Env} {b} : kCL2 e (some (.fz (.bool b), [])) = some (.fz (.bool b), e) := (rfl)
@[simp] theorem kCL2_2 {e : Env} {b} : kCL2 e (some (.fz (.int b), [])) = some (.fz (.int b), e) := (rfl)
@[simp] theorem kCL2_3 {e : Env} : kCL2 e (some (.fz .none, [])) = some (.fz .none, e) := (rfl)
def kCL1 (F : FnS) (e : Env) : Option (List D) → Option (RV × Env)
  | some ds => kCL2 e (F ds)
  | none => none
@[simp] theorem kCL1_1 {F : FnS} {e : Env} {ds} : kCL1 F e (some ds) = kCL2 e (F ds) := (rfl)
def kCL (F : FnS) : Option (List It × Env) → Option (RV × Env)
  | some (l, e) => kCL1 F e (itLs e l)
  | none => none
@[simp] theorem kCL_1 {F : FnS} {l} {e} : kCL F (some (l, e)) = kCL1 F e (itLs e l) := (rfl)
@[simp] theorem q_callL {F : FnS} {as : List LAr} {env : Env} : eCallL F as env = kCL F (evL as env) := by
  unfold eCallL
  cases evL as env with
  | none => rfl
  | some q =>
    obtain ⟨l, e⟩ := q
    simp only [kCL]
    cases itLs e l with
    | none => rfl
    | some ds =>
      simp only [kCL1]
      cases F ds with
      | none => rfl
      | some q =>
        obtain ⟨r, ms⟩ := q
        cases r with
        | fz d => cases ms <;> rfl
        | _ => rfl
/-! t.index(x) -/
def kIdxB (ds : List D) : Option (RV × Env) → Option (RV × Env)
  | some (.fz d, e) => if flt d = true ∧ ds.all flt = true then (match ds.findIdx? (fun x => beqD x d) with
      | some j => some (.fz (.int (j : Nat)), e)
      | none => none) else none
  | _ => none
def kIdx (b : M RV) : Option (RV × Env) → Option (RV × Env)
  | some (.fz (.tuple ds), e) => kIdxB ds (b e)
  | _ => none
@[simp] theorem kIdx_1 {b : M RV} {ds} {e} : kIdx b (some (.fz (.tuple ds), e)) = kIdxB ds (b e) := (rfl)
@[simp] theorem q_idx {a b : M RV} {env : Env} : eIdx a b env = kIdx b (a env) := by
  unfold eIdx
  cases a env with
  | none => rfl
  | some r =>
    obtain ⟨x, e⟩ := r
    cases x with
    | fz d =>
      cases d with
      | tuple ds =>
        simp only [kIdx]
        cases b e with
        | none => rfl
        | some r =>
          obtain ⟨y, e2⟩ := r
          cases y <;> rfl
      | _ => rfl
    | _ => rfl
theorem idx_li {x : Int} : ∀ {l : List Int}, x ∈ l → (li l).findIdx? (fun y => beqD y (.int x)) = some (l.idxOf x)
  | [], h => by cases h
  | y :: l, h => by
    rw [li_cons, List.findIdx?_cons, beqD_int, List.idxOf_cons]
    by_cases e : y = x
    · subst e; simp
    · have : x ∈ l := by
        rcases List.mem_cons.mp h with z | z
        · exact absurd z.symm e
        · exact z
      rw [idx_li this]
      have q : (y == x) = false := by simpa using e
      rw [q]
      simp [e]
@[simp] theorem kIdxI {x : Int} {l : List Int} {e : Env} (h : x ∈ l) : kIdxB (li l) (some (.fz (.int x), e)) = some (.fz (.int ((l.idxOf x : Nat) : Int)), e) := by
  show (if _ then _ else _) = _
  rw [if_pos ⟨rfl, li_flt l⟩, idx_li h]
/-! a call of a def that changes a list with parts -/
def kN4 (i : Nat) (e : Env) : Option (D × List Ob) → Option (RV × Env)
  | some (d, os) => some (.fz d, e.set i (.nt (.ls os)))
  | none => none
@[simp] theorem kN4_1 {i : Nat} {e : Env} {d} {os} : kN4 i e (some (d, os)) = some (.fz d, e.set i (.nt (.ls os))) := (rfl)
def kN3 (F : FnN) (i : Nat) (os : List Ob) (e : Env) : Option (List D) → Option (RV × Env)
  | some ds => kN4 i e (F os ds)
  | none => none
@[simp] theorem kN3_1 {F : FnN} {i : Nat} {os : List Ob} {e : Env} {ds} : kN3 F i os e (some ds) = kN4 i e (F os ds) := (rfl)
def kN2 (F : FnN) (i : Nat) (l : List It) (e : Env) : Option Sl → Option (RV × Env)
  | some (.nt (.ls os)) => kN3 F i os e (itDs e l)
  | _ => none
@[simp] theorem kN2_1 {F : FnN} {i : Nat} {l : List It} {e : Env} {os} : kN2 F i l e (some (.nt (.ls os))) = kN3 F i os e (itDs e l) := (rfl)
def kN1 (F : FnN) (i : Nat) : Option (List It × Env) → Option (RV × Env)
  | some (l, e) => kN2 F i l e e[i]?
  | none => none
@[simp] theorem kN1_1 {F : FnN} {i : Nat} {l} {e} : kN1 F i (some (l, e)) = kN2 F i l e e[i]? := (rfl)
def kN0 (F : FnN) (i : Nat) (as : List Ar) (env : Env) : Option Sl → Option (RV × Env)
  | some (.nt (.ls _)) => kN1 F i (evA as env)
  | _ => none
@[simp] theorem kN0_1 {F : FnN} {i : Nat} {as : List Ar} {env : Env} {os} : kN0 F i as env (some (.nt (.ls os))) = kN1 F i (evA as env) := (rfl)
@[simp] theorem q_callN {F : FnN} {i : Nat} {as : List Ar} {env : Env} : eCallN F i as env = kN0 F i as env env[i]? := by
  unfold eCallN
  cases env[i]? with
  | none => rfl
  | some s =>
    cases s with
    | nt o =>
      cases o with
      | ls os0 =>
        rw [kN0_1]
        simp only
        cases evA as env with
        | none => rfl
        | some r =>
          obtain ⟨l, e⟩ := r
          rw [kN1_1]
          simp only
          cases e[i]? with
          | none => rfl
          | some s =>
            cases s with
            | nt o =>
              cases o with
              | ls os =>
                rw [kN2_1]
                simp only
                cases itDs e l with
                | none => rfl
                | some ds =>
                  rw [kN3_1]
                  simp only
                  cases F os ds with
                  | none => rfl
                  | some r =>
                    rfl
              | _ => rfl
            | _ => rfl
      | _ => rfl
    | _ => rfl
def kFnN (f : Fl → Option (D × List Ob)) : Option Fl → Option (D × List Ob)
  | some x => f x
  | none => none
def endN : Fl → Option (D × List Ob)
  | .nx (.nt (.ls os') :: _) => some (.none, os')
  | .rt (.fz d) (.nt (.ls os') :: _) => some (d, os')
  | .rt (.ow ds) (.nt (.ls os') :: _) => some (.list ds, os')
  | _ => none
@[simp] theorem endN_1 {os e} : endN (.nx (.nt (.ls os) :: e)) = some (.none, os) := (rfl)
@[simp] theorem endN_2 {d os e} : endN (.rt (.fz d) (.nt (.ls os) :: e)) = some (d, os) := (rfl)
@[simp] theorem endN_3 {d os e} : endN (.rt (.ow d) (.nt (.ls os) :: e)) = some (.list d, os) := (rfl)
@[simp] theorem kFnN_1 {f x} : kFnN f (some x) = f x := (rfl)
theorem q_fnN {ks : List PK} {n : Nat} {body : SM} {os : List Ob} {ds : List D} {e0 : Env} (h : ini ks ds = some e0) : mkFnN ks n body os ds = kFnN endN (body (.nt (.ls os) :: (e0 ++ List.replicate n .no))) := by
  unfold mkFnN
  rw [h]
  simp only
  cases body (.nt (.ls os) :: (e0 ++ List.replicate n .no)) with
  | none => rfl
  | some fl =>
    cases fl with
    | nx e =>
      cases e with
      | nil => rfl
      | cons s e =>
        cases s with
        | nt o => cases o <;> rfl
        | _ => rfl
    | rt r e =>
      cases r with
      | nt o => rfl
      | _ =>
        cases e with
        | nil => rfl
        | cons s e =>
          cases s with
          | nt o => cases o <;> rfl
          | _ => rfl
    | _ => rfl
/-! ### what may raise -/
def kX3 (e : Env) : Option Ox → Option (Ev RV)
  | some (.ok r) => some (.ok (toRV r) e)
  | some (.ex c) => some (.ex c e)
  | none => none
@[simp] theorem kX3_1 {e : Env} {r} : kX3 e (some (.ok r)) = some (.ok (toRV r) e) := (rfl)
@[simp] theorem kX3_2 {e : Env} {c} : kX3 e (some (.ex c)) = some (.ex c e) := (rfl)
def kX2 (F : FnX) (e : Env) : Option (List D) → Option (Ev RV)
  | some ds => kX3 e (F ds)
  | none => none
@[simp] theorem kX2_1 {F : FnX} {e : Env} {ds} : kX2 F e (some ds) = kX3 e (F ds) := (rfl)
def kX1 (F : FnX) : Option (List It × Env) → Option (Ev RV)
  | some (l, e) => kX2 F e (itDs e l)
  | none => none
@[simp] theorem kX1_1 {F : FnX} {l} {e} : kX1 F (some (l, e)) = kX2 F e (itDs e l) := (rfl)
@[simp] theorem q_callX {F : FnX} {as : List Ar} {env : Env} : eCallX F as env = kX1 F (evA as env) := by
  unfold eCallX
  cases evA as env with
  | none => rfl
  | some r =>
    obtain ⟨l, e⟩ := r
    rw [kX1_1]
    simp only
    cases itDs e l with
    | none => rfl
    | some ds =>
      rw [kX2_1]
      simp only
      cases F ds with
      | none => rfl
      | some o => cases o <;> rfl
def kP3 (e : Env) : Option Ox → Option (RV × Env)
  | some (.ok r) => some (toRV r, e)
  | _ => none
@[simp] theorem kP3_1 {e : Env} {r} : kP3 e (some (.ok r)) = some (toRV r, e) := (rfl)
def kP2 (F : FnX) (e : Env) : Option (List D) → Option (RV × Env)
  | some ds => kP3 e (F ds)
  | none => none
@[simp] theorem kP2_1 {F : FnX} {e : Env} {ds} : kP2 F e (some ds) = kP3 e (F ds) := (rfl)
def kP1 (F : FnX) : Option (List It × Env) → Option (RV × Env)
  | some (l, e) => kP2 F e (itDs e l)
  | none => none
@[simp] theorem kP1_1 {F : FnX} {l} {e} : kP1 F (some (l, e)) = kP2 F e (itDs e l) := (rfl)
@[simp] theorem q_callP {F : FnX} {as : List Ar} {env : Env} : eCallP F as env = kP1 F (evA as env) := by
  unfold eCallP
  cases evA as env with
  | none => rfl
  | some r =>
    obtain ⟨l, e⟩ := r
    rw [kP1_1]
    simp only
    cases itDs e l with
    | none => rfl
    | some ds =>
      rw [kP2_1]
      simp only
      cases F ds with
      | none => rfl
      | some o => cases o <;> rfl
def kLift : Option (RV × Env) → Option (Ev RV)
  | some (r, e) => some (.ok r e)
  | none => none
@[simp] theorem kLift_1 {r e} : kLift (some (r, e)) = some (.ok r e) := (rfl)
@[simp] theorem q_lift {f : M RV} {env : Env} : xLift f env = kLift (f env) := by
  unfold xLift
  cases f env <;> rfl
def kxRet : Option (Ev RV) → Option Fl
  | some (.ok r e) => sRet (fun _ => some (r, e)) e
  | some (.ex c e) => some (.ex c e)
  | none => none
@[simp] theorem kxRet_1 {r e} : kxRet (some (.ok r e)) = sRet (fun _ => some (r, e)) e := (rfl)
@[simp] theorem kxRet_2 {c e} : kxRet (some (.ex c e)) = some (.ex c e) := (rfl)
@[simp] theorem q_xret {f : MX RV} {env : Env} : xRet f env = kxRet (f env) := by
  unfold xRet
  cases f env with
  | none => rfl
  | some r => cases r <;> rfl
def kxAsg (i : Nat) : Option (Ev RV) → Option Fl
  | some (.ok r e) => sAsg i (fun _ => some (r, e)) e
  | some (.ex c e) => some (.ex c e)
  | none => none
@[simp] theorem kxAsg_1 {i : Nat} {r e} : kxAsg i (some (.ok r e)) = sAsg i (fun _ => some (r, e)) e := (rfl)
@[simp] theorem kxAsg_2 {i : Nat} {c e} : kxAsg i (some (.ex c e)) = some (.ex c e) := (rfl)
@[simp] theorem q_xasg {i : Nat} {f : MX RV} {env : Env} : xAsg i f env = kxAsg i (f env) := by
  unfold xAsg
  cases f env with
  | none => rfl
  | some r => cases r <;> rfl
def kxUnp (g : G) : Option (Ev RV) → Option Fl
  | some (.ok r e) => sUnp g (fun _ => some (r, e)) e
  | some (.ex c e) => some (.ex c e)
  | none => none
@[simp] theorem kxUnp_1 {g : G} {r e} : kxUnp g (some (.ok r e)) = sUnp g (fun _ => some (r, e)) e := (rfl)
@[simp] theorem kxUnp_2 {g : G} {c e} : kxUnp g (some (.ex c e)) = some (.ex c e) := (rfl)
@[simp] theorem q_xunp {g : G} {f : MX RV} {env : Env} : xUnp g f env = kxUnp g (f env) := by
  unfold xUnp
  cases f env with
  | none => rfl
  | some r => cases r <;> rfl
def kxDrop : Option (Ev RV) → Option Fl
  | some (.ok _ e) => some (.nx e)
  | some (.ex c e) => some (.ex c e)
  | none => none
@[simp] theorem kxDrop_1 {r e} : kxDrop (some (.ok r e)) = some (.nx e) := (rfl)
@[simp] theorem kxDrop_2 {c e} : kxDrop (some (.ex c e)) = some (.ex c e) := (rfl)
@[simp] theorem q_xdrop {f : MX RV} {env : Env} : xDrop f env = kxDrop (f env) := by
  unfold xDrop
  cases f env with
  | none => rfl
  | some r => cases r <;> rfl
@[simp] theorem yNil_1 {env : Env} : yNil env = some (.ok [] env) := (rfl)
def kY3 (d : D) : Option (Ev (List D)) → Option (Ev (List D))
  | some (.ok ds e) => some (.ok (d :: ds) e)
  | some (.ex c e) => some (.ex c e)
  | none => none
@[simp] theorem kY3_1 {d : D} {ds e} : kY3 d (some (.ok ds e)) = some (.ok (d :: ds) e) := (rfl)
@[simp] theorem kY3_2 {d : D} {c e} : kY3 d (some (.ex c e)) = some (.ex c e) := (rfl)
def kY2 (r : MX (List D)) : Option (D × Env) → Option (Ev (List D))
  | some (d, e) => kY3 d (r e)
  | none => none
@[simp] theorem kY2_1 {r : MX (List D)} {d e} : kY2 r (some (d, e)) = kY3 d (r e) := (rfl)
def kY1 (r : MX (List D)) : Option (Ev RV) → Option (Ev (List D))
  | some (.ok x e) => kY2 r (fzv e x)
  | some (.ex c e) => some (.ex c e)
  | none => none
@[simp] theorem kY1_1 {r : MX (List D)} {x e} : kY1 r (some (.ok x e)) = kY2 r (fzv e x) := (rfl)
@[simp] theorem kY1_2 {r : MX (List D)} {c e} : kY1 r (some (.ex c e)) = some (.ex c e) := (rfl)
@[simp] theorem q_ycons {f : MX RV} {r : MX (List D)} {env : Env} : yCons f r env = kY1 r (f env) := by
  unfold yCons
  cases f env with
  | none => rfl
  | some x =>
    cases x with
    | ex c e => rfl
    | ok x e =>
      rw [kY1_1]
      simp only
      cases fzv e x with
      | none => rfl
      | some q =>
        obtain ⟨d, e2⟩ := q
        rw [kY2_1]
        simp only
        cases r e2 with
        | none => rfl
        | some q => cases q <;> rfl
def kxTup : Option (Ev (List D)) → Option (Ev RV)
  | some (.ok ds e) => some (.ok (.fz (.tuple ds)) e)
  | some (.ex c e) => some (.ex c e)
  | none => none
@[simp] theorem kxTup_1 {ds e} : kxTup (some (.ok ds e)) = some (.ok (.fz (.tuple ds)) e) := (rfl)
@[simp] theorem kxTup_2 {c e} : kxTup (some (.ex c e)) = some (.ex c e) := (rfl)
@[simp] theorem q_xtup {f : MX (List D)} {env : Env} : xTup f env = kxTup (f env) := by
  unfold xTup
  cases f env with
  | none => rfl
  | some r => cases r <;> rfl
def kxOpB (e : Env) : Option Rt → Option (Ev RV)
  | some r => some (.ok (toRV r) e)
  | none => none
@[simp] theorem kxOpB_1 {e : Env} {r} : kxOpB e (some r) = some (.ok (toRV r) e) := (rfl)
def kxOpA (g : D → Option Rt) (e : Env) : Option D → Option (Ev RV)
  | some d => kxOpB e (g d)
  | none => none
@[simp] theorem kxOpA_1 {g : D → Option Rt} {e : Env} {d} : kxOpA g e (some d) = kxOpB e (g d) := (rfl)
def kxOp (g : D → Option Rt) : Option (Ev RV) → Option (Ev RV)
  | some (.ok x e) => kxOpA g e (dr e x)
  | some (.ex c e) => some (.ex c e)
  | none => none
@[simp] theorem kxOp_1 {g : D → Option Rt} {x e} : kxOp g (some (.ok x e)) = kxOpA g e (dr e x) := (rfl)
@[simp] theorem kxOp_2 {g : D → Option Rt} {c e} : kxOp g (some (.ex c e)) = some (.ex c e) := (rfl)
@[simp] theorem q_xop {g : D → Option Rt} {f : MX RV} {env : Env} : xOp1 g f env = kxOp g (f env) := by
  unfold xOp1
  cases f env with
  | none => rfl
  | some r =>
    cases r with
    | ex c e => rfl
    | ok x e =>
      rw [kxOp_1]
      simp only
      cases dr e x with
      | none => rfl
      | some d =>
        rw [kxOpA_1]
        simp only
        cases g d <;> rfl
@[simp] theorem q_raise {x : Str} {env : Env} : sRaise x env = some (.ex ⟨x, []⟩ env) := (rfl)
def kTry3 (i : Nat) : Option Fl → Option Fl
  | some (.nx e) => some (.nx (e.set i .no))
  | some (.bk e) => some (.bk (e.set i .no))
  | some (.ct e) => some (.ct (e.set i .no))
  | some (.rt r e) => some (.rt r (e.set i .no))
  | _ => none
@[simp] theorem kTry3_1 {i : Nat} {e} : kTry3 i (some (.nx e)) = some (.nx (e.set i .no)) := (rfl)
@[simp] theorem kTry3_2 {i : Nat} {e} : kTry3 i (some (.bk e)) = some (.bk (e.set i .no)) := (rfl)
@[simp] theorem kTry3_3 {i : Nat} {e} : kTry3 i (some (.ct e)) = some (.ct (e.set i .no)) := (rfl)
@[simp] theorem kTry3_4 {i : Nat} {r e} : kTry3 i (some (.rt r e)) = some (.rt r (e.set i .no)) := (rfl)
def kTry2 (i : Nat) (suite : EC → SM) (c : EC) (e : Env) : Option Bool → Option Fl
  | some true => if i < e.length then kTry3 i (suite c (e.set i .no)) else none
  | some false => some (.ex c e)
  | none => none
@[simp] theorem kTry2_1 {i : Nat} {suite : EC → SM} {c : EC} {e : Env} : kTry2 i suite c e (some true) = if i < e.length then kTry3 i (suite c (e.set i .no)) else none := (rfl)
@[simp] theorem kTry2_2 {i : Nat} {suite : EC → SM} {c : EC} {e : Env} : kTry2 i suite c e (some false) = some (.ex c e) := (rfl)
def kTry (i : Nat) (mm : Str → Option Bool) (suite : EC → SM) : Option Fl → Option Fl
  | some (.ex c e) => kTry2 i suite c e (mm c.nm)
  | r => r
@[simp] theorem kTry_1 {i : Nat} {mm : Str → Option Bool} {suite : EC → SM} {c e} : kTry i mm suite (some (.ex c e)) = kTry2 i suite c e (mm c.nm) := (rfl)
@[simp] theorem kTry_2 {i : Nat} {mm : Str → Option Bool} {suite : EC → SM} {e} : kTry i mm suite (some (.nx e)) = some (.nx e) := (rfl)
@[simp] theorem kTry_3 {i : Nat} {mm : Str → Option Bool} {suite : EC → SM} {e} : kTry i mm suite (some (.bk e)) = some (.bk e) := (rfl)
@[simp] theorem kTry_4 {i : Nat} {mm : Str → Option Bool} {suite : EC → SM} {e} : kTry i mm suite (some (.ct e)) = some (.ct e) := (rfl)
@[simp] theorem kTry_5 {i : Nat} {mm : Str → Option Bool} {suite : EC → SM} {r e} : kTry i mm suite (some (.rt r e)) = some (.rt r e) := (rfl)
@[simp] theorem q_try {i : Nat} {mm : Str → Option Bool} {body : SM} {suite : EC → SM} {env : Env} : sTry i mm body suite env = kTry i mm suite (body env) := by
  unfold sTry
  cases body env with
  | none => rfl
  | some fl =>
    cases fl with
    | ex c e =>
      rw [kTry_1]
      simp only
      cases mm c.nm with
      | none => rfl
      | some b =>
        cases b with
        | false => rfl
        | true =>
          rw [kTry2_1]
          simp only
          split
          · cases suite c (e.set i .no) with
            | none => rfl
            | some fl => cases fl <;> rfl
          · rfl
    | _ => rfl
def kIsX (e : Env) : Option Bool → Option (RV × Env)
  | some b => some (.fz (.bool b), e)
  | none => none
@[simp] theorem kIsX_1 {e : Env} {b} : kIsX e (some b) = some (.fz (.bool b), e) := (rfl)
@[simp] theorem q_isX {tb : Str → Option Bool} {c : EC} {env : Env} : eIsX tb c env = kIsX env (tb c.nm) := by
  unfold eIsX
  cases tb c.nm <;> rfl
def kFnX2 : Option Fl → Option Ox
  | some (.nx _) => some (.ok (.fz .none))
  | some (.rt r _) => some (.ok r)
  | some (.ex c _) => some (.ex c)
  | _ => none
@[simp] theorem kFnX2_1 {e} : kFnX2 (some (.nx e)) = some (.ok (.fz .none)) := (rfl)
@[simp] theorem kFnX2_2 {r e} : kFnX2 (some (.rt r e)) = some (.ok r) := (rfl)
@[simp] theorem kFnX2_3 {c e} : kFnX2 (some (.ex c e)) = some (.ex c) := (rfl)
def kFnX (n : Nat) (body : SM) : Option Env → Option Ox
  | some e => kFnX2 (body (e ++ List.replicate n .no))
  | none => none
@[simp] theorem kFnX_1 {n : Nat} {body : SM} {e} : kFnX n body (some e) = kFnX2 (body (e ++ List.replicate n .no)) := (rfl)
theorem q_fnX {ks : List PK} {n : Nat} {body : SM} {ds : List D} : mkFnX ks n body ds = kFnX n body (ini ks ds) := by
  unfold mkFnX
  cases ini ks ds with
  | none => rfl
  | some e =>
    rw [kFnX_1]
    simp only
    cases body (e ++ List.replicate n .no) with
    | none => rfl
    | some fl => cases fl <;> rfl
@[simp] theorem tbF_1 {x : Str} {b : Bool} {l : List (Str × Bool)} : tbF ((x, b) :: l) x = some b := by simp [tbF]
theorem tbF_2 {x y : Str} {b : Bool} {l : List (Str × Bool)} (h : y ≠ x) : tbF ((x, b) :: l) y = tbF l y := by simp [tbF, h]
def kStar2 : Option (D × Env) → Option (List D × Env)
  | some (.tuple ds, e2) => if ds.length < limit then some (ds, e2) else none
  | some (.list ds, e2) => if ds.length < limit then some (ds, e2) else none
  | _ => none
@[simp] theorem kStar2_1 {ds e2} : kStar2 (some (.tuple ds, e2)) = if ds.length < limit then some (ds, e2) else none := (rfl)
@[simp] theorem kStar2_2 {ds e2} : kStar2 (some (.list ds, e2)) = if ds.length < limit then some (ds, e2) else none := (rfl)
def kStar1 : Option (RV × Env) → Option (List D × Env)
  | some (x, e1) => kStar2 (fzv e1 x)
  | none => none
@[simp] theorem kStar1_1 {x e1} : kStar1 (some (x, e1)) = kStar2 (fzv e1 x) := (rfl)
@[simp] theorem q_aStar {f : M RV} {env : Env} : aStar f env = kStar1 (f env) := by
  unfold aStar
  cases f env with
  | none => rfl
  | some x =>
    obtain ⟨x, e1⟩ := x
    rw [kStar1_1]
    simp only
    cases fzv e1 x with
    | none => rfl
    | some r =>
      obtain ⟨d, e2⟩ := r
      cases d <;> rfl
end J
namespace K15
open PySem J
/-! _law_cell: 0 script, 1 k, 2 one -/
def l__law_cell_1 : M RV :=
  (eOp2 modD (eOp1 intD (eVar 2)) (eC (.int 1000003)))
def b__law_cell : SM :=
  (sSeq (sIf (tVal (eOp2 ltD (eVar 1) (eScLen 0))) (sRet (eOp1 intD (eScIx 0 (eVar 1)))) sNil) (sRet (eOp2 addD (eOp1 sumD (eLc [2] (gNm 2) (itSeq (eScSl 0 oNo (oSo (eC (.int 3))))) tYes l__law_cell_1)) (eOp2 mulD (eC (.int 71)) (eOp2 addD (eVar 1) (eC (.int 1)))))))
def f__law_cell : FnS := mkFn [.sc, .bw] 1 b__law_cell
/-! _law_purse: 0 script, 1 k, 2 cell -/
def b__law_purse : SM :=
  (sSeq (sUnp (gNm 2) (eCall f__law_cell [.sc 0, .bw (eVar 1)])) (sSeq (sIf (tVal (eOp2 geD (eVar 2) (eOp2 powD (eC (.int 10)) (eC (.int 18))))) (sRet (eLst (aCons (eVar 2) (aCons (eOp2 modD (eOp1 intD (eVar 2)) (eC (.int 2147483629))) (aCons (eC (.int 0)) aNil))))) sNil) (sRet (eLst (aCons (eC (.int 0)) (aCons (eOp2 modD (eOp1 intD (eVar 2)) (eC (.int 2147483629))) (aCons (eC (.int 0)) aNil)))))))
def f__law_purse : FnS := mkFn [.sc, .bw] 1 b__law_purse
/-! _law_start: 0 strands, 1 k -/
def l__law_start_1 : M RV :=
  (eTup (aCons (eOp2 addD (eVar 1) (eC (.int 1))) aNil))
def b__law_start : SM :=
  (sRet (eLc [1] (gNm 1) (itR1 (eVar 0)) tYes l__law_start_1))
def f__law_start : FnS := mkFn [.bw] 1 b__law_start
/-! _law_take: 0 purse, 1 size, 2 found, 3 mixed -/
def b__law_take : SM :=
  (sSeq (sSet 0 (eC (.int 2)) (eOp2 addD (eOp2 ixD (eVar 0) (eC (.int 2))) (eC (.int 1)))) (sSeq (sIf (tVal (eOp2 gtD (eOp2 ixD (eVar 0) (eC (.int 0))) (eC (.int 0)))) (sSeq (sAsg 2 (eOp2 modD (eOp1 intD (eOp2 ixD (eVar 0) (eC (.int 0)))) (eVar 1))) (sSeq (sSet 0 (eC (.int 0)) (eOp2 fdivD (eOp2 ixD (eVar 0) (eC (.int 0))) (eVar 1))) (sRet (eVar 2)))) sNil) (sSeq (sUnp (gNm 3) (eOp2 modD (eOp1 intD (eOp2 addD (eOp2 mulD (eOp2 ixD (eVar 0) (eC (.int 1))) (eC (.int 48271))) (eOp2 mulD (eOp2 ixD (eVar 0) (eC (.int 2))) (eC (.int 7368787))))) (eC (.int 2147483629)))) (sSeq (sUnp (gNm 3) (eOp2 modD (eOp1 intD (eOp2 addD (eOp2 mulD (eVar 3) (eOp2 addD (eC (.int 16807)) (eOp2 modD (eOp1 intD (eVar 3)) (eC (.int 65521))))) (eOp2 mulD (eOp2 ixD (eVar 0) (eC (.int 2))) (eC (.int 40692))))) (eC (.int 2147483647)))) (sRet (eOp2 modD (eOp1 intD (eOp2 fdivD (eVar 3) (eC (.int 32)))) (eVar 1)))))))
def f__law_take : FnS := mkFn [.mt, .bw] 2 b__law_take
/-! _law_reduced: 0 letters, 1 kept, 2 letter -/
def l__law_reduced_1 : SM :=
  (sIf (tAnd (tTru (eVar 1)) (tVal (eOp2 eqD (eOp2 ixD (eVar 1) (eOp1 negD (eC (.int 1)))) (eOp1 negD (eVar 2))))) (sDrop (ePop 1)) (sApp 1 (eVar 2)))
def b__law_reduced : SM :=
  (sSeq (sAsg 1 (eLst aNil)) (sSeq (sFor [2] (gNm 2) (itSeq (eVar 0)) l__law_reduced_1) (sRet (eOp1 tupleD (eVar 1)))))
def f__law_reduced : FnS := mkFn [.bw] 2 b__law_reduced
/-! _law_against: 0 word, 1 letter -/
def l__law_against_1 : M RV :=
  (eOp1 negD (eVar 1))
def b__law_against : SM :=
  (sRet (eOp1 tupleD (eLc [1] (gNm 1) (itRv (eOp1 listD (eVar 0))) tYes l__law_against_1)))
def f__law_against : FnS := mkFn [.bw] 1 b__law_against
/-! _law_moved: 0 row, 1 letter, 2 entries, 3 i, 4 first, 5 second -/
def b__law_moved : SM :=
  (sSeq (sAsg 2 (eOp1 listD (eVar 0))) (sSeq (sUnp (gNm 3) (eOp2 subD (eOp1 absD (eVar 1)) (eC (.int 1)))) (sSeq (sUnp (gNm 4) (eOp2 ixD (eVar 2) (eVar 3))) (sSeq (sUnp (gNm 5) (eOp2 ixD (eVar 2) (eOp2 addD (eVar 3) (eC (.int 1))))) (sSeq (sIf (tVal (eOp2 gtD (eVar 1) (eC (.int 0)))) (sSeq (sSet 2 (eVar 3) (eCall f__law_reduced [.bw (eOp2 addD (eOp2 addD (eVar 4) (eVar 5)) (eCall f__law_against [.bw (eVar 4)]))])) (sSet 2 (eOp2 addD (eVar 3) (eC (.int 1))) (eVar 4))) (sSeq (sSet 2 (eVar 3) (eVar 5)) (sSet 2 (eOp2 addD (eVar 3) (eC (.int 1))) (eCall f__law_reduced [.bw (eOp2 addD (eOp2 addD (eCall f__law_against [.bw (eVar 5)]) (eVar 4)) (eVar 5))])))) (sRet (eVar 2)))))))
def f__law_moved : FnS := mkFn [.bw, .bw] 4 b__law_moved
/-! _law_letter: 0 purse, 1 size, 2 letter -/
def b__law_letter : SM :=
  (sSeq (sAsg 2 (eOp2 addD (eC (.int 1)) (eCall f__law_take [.mt 0, .bw (eVar 1)]))) (sSeq (sIf (tVal (eOp2 eqD (eCall f__law_take [.mt 0, .bw (eC (.int 2))]) (eC (.int 1)))) (sRet (eOp1 negD (eVar 2))) sNil) (sRet (eVar 2))))
def f__law_letter : FnS := mkFn [.mt, .bw] 1 b__law_letter
/-! _law_images: 0 purse, 1 strands, 2 limit, 3 row, 4 many, 5 turn, 6 grown, 7 one -/
def l__law_images_2 : M RV :=
  (eOp1 lenD (eVar 7))
def l__law_images_1 : SM :=
  (sSeq (sUnp (gNm 6) (eCall f__law_moved [.bw (eVar 3), .bw (eCall f__law_letter [.mt 0, .bw (eOp2 subD (eVar 1) (eC (.int 1)))])])) (sIf (tVal (eOp2 leD (eOp1 sumD (eLc [7] (gNm 7) (itSeq (eVar 6)) tYes l__law_images_2)) (eVar 2))) (sAsg 3 (eVar 6)) sNil))
def b__law_images : SM :=
  (sSeq (sAsg 3 (eCall f__law_start [.bw (eVar 1)])) (sSeq (sIf (tVal (eOp2 eqD (eVar 1) (eC (.int 1)))) (sRet (eVar 3)) sNil) (sSeq (sUnp (gNm 4) (eCall f__law_take [.mt 0, .bw (eC (.int 11))])) (sSeq (sIf (tVal (eOp2 eqD (eVar 4) (eC (.int 10)))) (sUnp (gNm 4) (eOp2 addD (eC (.int 10)) (eCall f__law_take [.mt 0, .bw (eC (.int 15))]))) sNil) (sSeq (sFor [5, 6, 7] (gNm 5) (itR1 (eVar 4)) l__law_images_1) (sRet (eVar 3)))))))
def f__law_images : FnS := mkFn [.mt, .bw, .bw] 5 b__law_images
/-! _law_conjugated: 0 entry, 1 by -/
def b__law_conjugated : SM :=
  (sRet (eCall f__law_reduced [.bw (eOp2 addD (eOp2 addD (eVar 1) (eVar 0)) (eCall f__law_against [.bw (eVar 1)]))]))
def f__law_conjugated : FnS := mkFn [.bw, .bw] 0 b__law_conjugated
/-! _law_turned: 0 purse, 1 row, 2 strands, 3 most, 4 way, 5 exponent, 6 by, 7 entry, 8 k -/
def l__law_turned_1 : M RV :=
  (eOp2 addD (eVar 8) (eC (.int 1)))
def l__law_turned_2 : M RV :=
  (eCall f__law_conjugated [.bw (eVar 7), .bw (eVar 6)])
def b__law_turned : SM :=
  (sSeq (sUnp (gNm 2) (eOp1 lenD (eVar 1))) (sSeq (sUnp (gNm 3) (eOp2 ixD (eLst (aCons (eC (.int 0)) (aCons (eC (.int 0)) (aCons (eC (.int 40)) (aCons (eC (.int 12)) (aCons (eC (.int 4)) (aCons (eC (.int 2)) (aCons (eC (.int 1)) (aCons (eC (.int 1)) (aCons (eC (.int 1)) aNil)))))))))) (eVar 2))) (sSeq (sUnp (gNm 4) (eCall f__law_take [.mt 0, .bw (eC (.int 4))])) (sSeq (sUnp (gNm 5) (eC (.int 0))) (sSeq (sIf (tVal (eOp2 eqD (eVar 4) (eC (.int 2)))) (sUnp (gNm 5) (eOp2 subD (eCall f__law_take [.mt 0, .bw (eC (.int 3))]) (eC (.int 1)))) sNil) (sSeq (sIf (tVal (eOp2 eqD (eVar 4) (eC (.int 3)))) (sUnp (gNm 5) (eOp2 subD (eCall f__law_take [.mt 0, .bw (eOp2 addD (eOp2 mulD (eC (.int 2)) (eVar 3)) (eC (.int 1)))]) (eVar 3))) sNil) (sSeq (sUnp (gNm 6) (eOp2 mulD (eOp1 tupleD (eLc [8] (gNm 8) (itR1 (eVar 2)) tYes l__law_turned_1)) (eOp1 absD (eVar 5)))) (sSeq (sIf (tVal (eOp2 ltD (eVar 5) (eC (.int 0)))) (sUnp (gNm 6) (eCall f__law_against [.bw (eVar 6)])) sNil) (sRet (eLc [7] (gNm 7) (itSeq (eVar 1)) tYes l__law_turned_2))))))))))
def f__law_turned : FnS := mkFn [.mt, .bw] 7 b__law_turned
/-! _law_put: 0 row, 1 at, 2 entry, 3 changed -/
def b__law_put : SM :=
  (sSeq (sAsg 3 (eOp1 listD (eVar 0))) (sSeq (sSet 3 (eVar 1) (eCall f__law_reduced [.bw (eVar 2)])) (sRet (eVar 3))))
def f__law_put : FnS := mkFn [.bw, .bw, .bw] 1 b__law_put
/-! _law_round: 0 row, 1 strands, 2 changed, 3 entry, 4 letters, 5 letter, 6 other -/
def l__law_round_2 : SM :=
  (sSeq (sUnp (gNm 6) (eOp2 addD (eOp2 modD (eOp1 intD (eOp1 absD (eVar 5))) (eVar 1)) (eC (.int 1)))) (sSeq (sIf (tVal (eOp2 ltD (eVar 5) (eC (.int 0)))) (sUnp (gNm 6) (eOp1 negD (eVar 6))) sNil) (sApp 4 (eVar 6))))
def l__law_round_1 : SM :=
  (sSeq (sAsg 4 (eLst aNil)) (sSeq (sFor [5, 6] (gNm 5) (itSeq (eVar 3)) l__law_round_2) (sApp 2 (eOp1 tupleD (eVar 4)))))
def b__law_round : SM :=
  (sSeq (sUnp (gNm 1) (eOp1 lenD (eVar 0))) (sSeq (sAsg 2 (eLst aNil)) (sSeq (sFor [3, 4, 5, 6] (gNm 3) (itSeq (eVar 0)) l__law_round_1) (sRet (eVar 2)))))
def f__law_round : FnS := mkFn [.bw] 6 b__law_round
/-! _law_behind: 0 purse, 1 row, 2 low, 3 first, 4 second, 5 by, 6 changed -/
def b__law_behind : SM :=
  (sSeq (sUnp (gNm 2) (eCall f__law_take [.mt 0, .bw (eOp2 subD (eOp1 lenD (eVar 1)) (eC (.int 1)))])) (sSeq (sUnp (gNm 3) (eCall f__law_letter [.mt 0, .bw (eOp1 lenD (eVar 1))])) (sSeq (sUnp (gNm 4) (eCall f__law_letter [.mt 0, .bw (eOp1 lenD (eVar 1))])) (sSeq (sUnp (gNm 5) (eOp2 ixD (eLst (aCons (eTup (aCons (eVar 3) aNil)) (aCons (eTup (aCons (eVar 3) (aCons (eVar 4) aNil))) (aCons (eTup (aCons (eVar 3) (aCons (eVar 4) (aCons (eOp1 negD (eVar 3)) (aCons (eOp1 negD (eVar 4)) aNil))))) aNil)))) (eCall f__law_take [.mt 0, .bw (eC (.int 3))]))) (sSeq (sUnp (gNm 6) (eCall f__law_put [.bw (eVar 1), .bw (eVar 2), .bw (eOp2 addD (eOp2 ixD (eVar 1) (eVar 2)) (eVar 5))])) (sRet (eCall f__law_put [.bw (eVar 6), .bw (eOp2 addD (eVar 2) (eC (.int 1))), .bw (eOp2 addD (eCall f__law_against [.bw (eVar 5)]) (eOp2 ixD (eVar 1) (eOp2 addD (eVar 2) (eC (.int 1)))))])))))))
def f__law_behind : FnS := mkFn [.mt, .bw] 5 b__law_behind
/-! _law_spoilt: 0 purse, 1 row, 2 strands, 3 at, 4 away, 5 letter, 6 by, 7 entry, 8 rows, 9 turn, 10 one -/
def l__law_spoilt_1 : M RV :=
  (eCall f__law_letter [.mt 0, .bw (eVar 2)])
def l__law_spoilt_2 : M RV :=
  (eCall f__law_conjugated [.bw (eVar 10), .bw (eVar 6)])
def b__law_spoilt : SM :=
  (sSeq (sUnp (gNm 2) (eOp1 lenD (eVar 1))) (sSeq (sUnp (gNm 3) (eCall f__law_take [.mt 0, .bw (eVar 2)])) (sSeq (sUnp (gNm 4) (eOp2 modD (eOp1 intD (eOp2 addD (eOp2 addD (eVar 3) (eC (.int 1))) (eCall f__law_take [.mt 0, .bw (eOp2 maxD (eC (.int 1)) (eOp2 subD (eVar 2) (eC (.int 1))))]))) (eVar 2))) (sSeq (sUnp (gNm 5) (eCall f__law_letter [.mt 0, .bw (eVar 2)])) (sSeq (sUnp (gNm 6) (eCall f__law_reduced [.bw (eLc [9] (gNm 9) (itR1 (eOp2 addD (eC (.int 1)) (eCall f__law_take [.mt 0, .bw (eC (.int 4))]))) tYes l__law_spoilt_1)])) (sSeq (sUnp (gNm 7) (eOp2 ixD (eVar 1) (eVar 3))) (sSeq (sAsg 8 (eLst (aCons (eCall f__law_put [.bw (eVar 1), .bw (eVar 3), .bw (eOp2 addD (eVar 7) (eTup (aCons (eVar 5) aNil)))]) (aCons (eCall f__law_put [.bw (eCall f__law_put [.bw (eVar 1), .bw (eVar 3), .bw (eOp2 ixD (eVar 1) (eVar 4))]), .bw (eVar 4), .bw (eVar 7)]) aNil)))) (sSeq (sApp 8 (eCall f__law_put [.bw (eVar 1), .bw (eVar 3), .bw (eCall f__law_against [.bw (eVar 7)])])) (sSeq (sApp 8 (eCall f__law_put [.bw (eVar 1), .bw (eVar 3), .bw (eCall f__law_conjugated [.bw (eVar 7), .bw (eTup (aCons (eVar 5) aNil))])])) (sSeq (sApp 8 (eLc [10] (gNm 10) (itSeq (eVar 1)) tYes l__law_spoilt_2)) (sSeq (sApp 8 (eOp2 addD (eSl slD (eVar 1) (oSo (eC (.int 1))) oNo) (eSl slD (eVar 1) oNo (oSo (eC (.int 1)))))) (sSeq (sApp 8 (eCall f__law_round [.bw (eVar 1)])) (sSeq (sApp 8 (eCall f__law_put [.bw (eVar 1), .bw (eVar 3), .bw (eOp2 ixD (eVar 1) (eVar 4))])) (sSeq (sApp 8 (eCall f__law_put [.bw (eVar 1), .bw (eVar 3), .bw (eOp2 addD (eOp2 addD (eVar 7) (eVar 7)) (eVar 7))])) (sSeq (sApp 8 (eCall f__law_put [.bw (eVar 1), .bw (eVar 3), .bw (eTup aNil)])) (sSeq (sIf (tVal (eOp2 geD (eVar 2) (eC (.int 2)))) (sSeq (sApp 8 (eCall f__law_behind [.mt 0, .bw (eVar 1)])) (sApp 8 (eCall f__law_behind [.mt 0, .bw (eVar 1)]))) sNil) (sRet (eVar 8))))))))))))))))))
def f__law_spoilt : FnS := mkFn [.mt, .bw] 9 b__law_spoilt
/-! _law_is_conjugate: 0 entry, 1 middle, 2 k -/
def l__law_is_conjugate_1 : SM :=
  (sIf (tVal (eOp2 neD (eOp2 ixD (eVar 0) (eVar 2)) (eOp1 negD (eOp2 ixD (eVar 0) (eOp2 subD (eOp2 subD (eOp1 lenD (eVar 0)) (eC (.int 1))) (eVar 2)))))) (sRet (eC (.bool false))) sNil)
def b__law_is_conjugate : SM :=
  (sSeq (sUnp (gNm 1) (eOp2 fdivD (eOp1 lenD (eVar 0)) (eC (.int 2)))) (sSeq (sIf (tOr (tVal (eOp2 neD (eOp1 lenD (eVar 0)) (eOp2 addD (eOp2 mulD (eC (.int 2)) (eVar 1)) (eC (.int 1))))) (tVal (eOp2 ltD (eOp2 ixD (eVar 0) (eVar 1)) (eC (.int 0))))) (sRet (eC (.bool false))) sNil) (sSeq (sFor [2] (gNm 2) (itR1 (eVar 1)) l__law_is_conjugate_1) (sRet (eC (.bool true))))))
def f__law_is_conjugate : FnS := mkFn [.bw] 2 b__law_is_conjugate
/-! _law_is_due: 0 row, 1 letters, 2 entry, 3 k -/
def l__law_is_due_1 : SM :=
  (sSeq (sIf (tNot (tTru (eCall f__law_is_conjugate [.bw (eVar 2)]))) (sRet (eC (.bool false))) sNil) (sExt 1 (eOp1 listD (eVar 2))))
def l__law_is_due_2 : M RV :=
  (eOp2 addD (eVar 3) (eC (.int 1)))
def b__law_is_due : SM :=
  (sSeq (sAsg 1 (eLst aNil)) (sSeq (sFor [2] (gNm 2) (itSeq (eVar 0)) l__law_is_due_1) (sRet (eOp2 eqD (eCall f__law_reduced [.bw (eVar 1)]) (eOp1 tupleD (eLc [3] (gNm 3) (itR1 (eOp1 lenD (eVar 0))) tYes l__law_is_due_2))))))
def f__law_is_due : FnS := mkFn [.bw] 3 b__law_is_due
/-! free_word: 0 letters, 1 reduced, 2 letter -/
def l_free_word_1 : SM :=
  (sIf (tAnd (tTru (eVar 1)) (tVal (eOp2 eqD (eOp2 ixD (eVar 1) (eOp1 negD (eC (.int 1)))) (eOp1 negD (eVar 2))))) (sDrop (ePop 1)) (sApp 1 (eVar 2)))
def b_free_word : SM :=
  (sSeq (sAsg 1 (eLst aNil)) (sSeq (sFor [2] (gNm 2) (itSeq (eVar 0)) l_free_word_1) (sRet (eOp1 tupleD (eVar 1)))))
def f_free_word : FnS := mkFn [.bw] 2 b_free_word
/-! free_product: 0 words, 1 letters, 2 word -/
def l_free_product_1 : SM :=
  (sExt 1 (eVar 2))
def b_free_product : SM :=
  (sSeq (sAsg 1 (eLst aNil)) (sSeq (sFor [2] (gNm 2) (itSeq (eVar 0)) l_free_product_1) (sRet (eCall f_free_word [.bw (eVar 1)]))))
def f_free_product : FnS := mkFn [.fz] 2 b_free_product
/-! free_inverse: 0 word, 1 letter -/
def l_free_inverse_1 : M RV :=
  (eOp1 negD (eVar 1))
def b_free_inverse : SM :=
  (sRet (eOp1 tupleD (eLc [1] (gNm 1) (itSeq (eOp1 revD (eVar 0))) tYes l_free_inverse_1)))
def f_free_inverse : FnS := mkFn [.bw] 1 b_free_inverse
/-! conjugate_parts: 0 word, 1 half, 2 before, 3 centre, 4 after -/
def b_conjugate_parts : SM :=
  (sSeq (sIf (tVal (eOp2 eqD (eOp2 modD (eOp1 lenD (eVar 0)) (eC (.int 2))) (eC (.int 0)))) (sRet (eC .none)) sNil) (sSeq (sUnp (gNm 1) (eOp2 fdivD (eOp1 lenD (eVar 0)) (eC (.int 2)))) (sSeq (sPar [2, 3, 4] (aCons (eSl slD (eVar 0) oNo (oSo (eVar 1))) (aCons (eOp2 ixD (eVar 0) (eVar 1)) (aCons (eSl slD (eVar 0) (oSo (eOp2 addD (eVar 1) (eC (.int 1)))) oNo) aNil)))) (sSeq (sIf (tOr (tVal (eOp2 ltD (eVar 3) (eC (.int 0)))) (tVal (eOp2 neD (eVar 4) (eCall f_free_inverse [.bw (eVar 2)])))) (sRet (eC .none)) sNil) (sRet (eTup (aCons (eVar 2) (aCons (eVar 3) aNil))))))))
def f_conjugate_parts : FnS := mkFn [.bw] 4 b_conjugate_parts
/-! is_braid_row: 0 strands, 1 row, 2 entry -/
def l_is_braid_row_1 : SM :=
  (sIf (tVal (eOp2 isD2 (eCall f_conjugate_parts [.bw (eVar 2)]) (eC .none))) (sRet (eC (.bool false))) sNil)
def b_is_braid_row : SM :=
  (sSeq (sFor [2] (gNm 2) (itSeq (eVar 1)) l_is_braid_row_1) (sRet (eOp2 eqD (eCallV f_free_product (aStar (eVar 1))) (eRgT (itR2 (eC (.int 1)) (eOp2 addD (eVar 0) (eC (.int 1))))))))
def f_is_braid_row : FnS := mkFn [.bw, .bw] 1 b_is_braid_row
/-! conjugated_free: 0 word, 1 by -/
def b_conjugated_free : SM :=
  (sRet (eCallV f_free_product (aCons (eVar 1) (aCons (eVar 0) (aCons (eCall f_free_inverse [.bw (eVar 1)]) aNil)))))
def f_conjugated_free : FnS := mkFn [.fz, .fz] 0 b_conjugated_free
/-! _over: 0 first, 1 second -/
def b__over : SM :=
  (sRet (eCall f_conjugated_free [.fz (eVar 1), .fz (eVar 0)]))
def f__over : FnS := mkFn [.fz, .fz] 0 b__over
/-! _under: 0 first, 1 second -/
def b__under : SM :=
  (sRet (eCall f_conjugated_free [.fz (eVar 0), .fz (eCall f_free_inverse [.bw (eVar 1)])]))
def f__under : FnS := mkFn [.fz, .bw] 0 b__under
/-! _shortening_letter: 0 row, 1 best_letter, 2 best_gain, 3 i, 4 first, 5 second, 6 gain -/
def l__shortening_letter_1 : SM :=
  (sSeq (sPar [4, 5] (aCons (eOp2 ixD (eVar 0) (eOp2 subD (eVar 3) (eC (.int 1)))) (aCons (eOp2 ixD (eVar 0) (eVar 3)) aNil))) (sSeq (sUnp (gNm 6) (eOp2 subD (eOp1 lenD (eVar 5)) (eOp1 lenD (eCall f__over [.fz (eVar 4), .fz (eVar 5)])))) (sSeq (sIf (tVal (eOp2 gtD (eVar 6) (eVar 2))) (sPar [1, 2] (aCons (eVar 3) (aCons (eVar 6) aNil))) sNil) (sSeq (sUnp (gNm 6) (eOp2 subD (eOp1 lenD (eVar 4)) (eOp1 lenD (eCall f__under [.fz (eVar 4), .bw (eVar 5)])))) (sIf (tVal (eOp2 gtD (eVar 6) (eVar 2))) (sPar [1, 2] (aCons (eOp1 negD (eVar 3)) (aCons (eVar 6) aNil))) sNil)))))
def b__shortening_letter : SM :=
  (sSeq (sAsg 1 (eC (.int 0))) (sSeq (sUnp (gNm 2) (eC (.int 0))) (sSeq (sFor [3, 4, 5, 6] (gNm 3) (itR2 (eC (.int 1)) (eOp1 lenD (eVar 0))) l__shortening_letter_1) (sRet (eVar 1)))))
def f__shortening_letter : FnS := mkFn [.bw] 6 b__shortening_letter
/-! inverse_word: 0 word, 1 letter -/
def l_inverse_word_1 : M RV :=
  (eOp1 negD (eVar 1))
def b_inverse_word : SM :=
  (sRet (eLc [1] (gNm 1) (itSeq (eOp1 revD (eVar 0))) tYes l_inverse_word_1))
def f_inverse_word : FnS := mkFn [.bw] 1 b_inverse_word
/-! act: 0 row, 1 word, 2 entries, 3 letter, 4 i, 5 first, 6 second -/
def l_act_1 : SM :=
  (sSeq (sUnp (gNm 4) (eOp1 absD (eVar 3))) (sSeq (sPar [5, 6] (aCons (eOp2 ixD (eVar 2) (eOp2 subD (eVar 4) (eC (.int 1)))) (aCons (eOp2 ixD (eVar 2) (eVar 4)) aNil))) (sIf (tVal (eOp2 gtD (eVar 3) (eC (.int 0)))) (sSeq (sSet 2 (eOp2 subD (eVar 4) (eC (.int 1))) (eCall f__over [.fz (eVar 5), .fz (eVar 6)])) (sSet 2 (eVar 4) (eVar 5))) (sSeq (sSet 2 (eOp2 subD (eVar 4) (eC (.int 1))) (eVar 6)) (sSet 2 (eVar 4) (eCall f__under [.fz (eVar 5), .bw (eVar 6)]))))))
def b_act : SM :=
  (sSeq (sAsg 2 (eOp1 listD (eVar 0))) (sSeq (sFor [3, 4, 5, 6] (gNm 3) (itSeq (eVar 1)) l_act_1) (sRet (eOp1 tupleD (eVar 2)))))
def f_act : FnS := mkFn [.bw, .bw] 5 b_act
/-! braid_of: 0 strands, 1 row, 2 entries, 3 letters, 4 letter -/
def w_braid_of_1 : Nat := 1000000000
def t_braid_of_1 : M Bool :=
  (tVal (eOp2 neD (eVar 4) (eC (.int 0))))
def l_braid_of_1 : SM :=
  (sSeq (sApp 3 (eVar 4)) (sSeq (sUnp (gNm 2) (eCall f_act [.bw (eVar 2), .bw (eLst (aCons (eVar 4) aNil))])) (sUnp (gNm 4) (eCall f__shortening_letter [.bw (eVar 2)]))))
def b_braid_of : SM :=
  (sSeq (sIf (tNot (tTru (eCall f_is_braid_row [.bw (eVar 0), .bw (eVar 1)]))) (sRaise "NotBraidRow") sNil) (sSeq (sUnp (gNm 2) (eOp1 tupleD (eVar 1))) (sSeq (sAsg 3 (eLst aNil)) (sSeq (sUnp (gNm 4) (eCall f__shortening_letter [.bw (eVar 2)])) (sSeq (sWhile w_braid_of_1 [] t_braid_of_1 l_braid_of_1) (sRet (eCall f_inverse_word [.bw (eVar 3)])))))))
def f_braid_of : FnX := mkFnX [.bw, .bw] 3 b_braid_of
/-! _law_asked: 0 row, 1 raised, 2 right -/
def l__law_asked_1 : SM :=
  (xRet (xTup (yCons (xLift (eC (.str ("word" : PySem.Str)))) (yCons (eCallX f_braid_of [.bw (eOp1 lenD (eVar 0)), .bw (eOp1 tupleD (eVar 0))]) yNil))))
def s__law_asked_1 (ec : EC) : SM :=
  (sSeq (sUnp (gNm 2) (eAnd (eIsX (tbF [("NotBraidRow", true)]) ec) (eIsX (tbF [("NotBraidRow", true)]) ec))) (sRet (eTup (aCons (eC (.str ("refused" : PySem.Str))) (aCons (eAnd (eVar 2) (eNot (eIsX (tbF [("NotBraidRow", false)]) ec))) aNil)))))
def b__law_asked : SM :=
  (sTry 1 (tbF [("NotBraidRow", true)]) l__law_asked_1 s__law_asked_1)
def f__law_asked : FnS := mkFn [.bw] 2 b__law_asked
/-! _law_leads: 0 word, 1 row, 2 letter, 3 entries -/
def l__law_leads_1 : SM :=
  (sSeq (sIf (tOr (tNot (tTru (eOp1 (isiD .int) (eVar 2)))) (tTru (eOp1 (isiD .bool) (eVar 2)))) (sRet (eC (.bool false))) sNil) (sIf (tOr (tVal (eOp2 eqD (eVar 2) (eC (.int 0)))) (tVal (eOp2 geD (eOp1 absD (eVar 2)) (eOp1 lenD (eVar 1))))) (sRet (eC (.bool false))) sNil))
def l__law_leads_2 : SM :=
  (sUnp (gNm 3) (eCall f__law_moved [.bw (eVar 3), .bw (eVar 2)]))
def b__law_leads : SM :=
  (sSeq (sIf (tNot (tTru (eOp1 (isiD .list) (eVar 0)))) (sRet (eC (.bool false))) sNil) (sSeq (sFor [2] (gNm 2) (itSeq (eVar 0)) l__law_leads_1) (sSeq (sUnp (gNm 3) (eCall f__law_start [.bw (eOp1 lenD (eVar 1))])) (sSeq (sFor [2] (gNm 2) (itSeq (eCall f__law_reduced [.bw (eVar 0)])) l__law_leads_2) (sRet (eOp2 eqD (eVar 3) (eVar 1)))))))
def f__law_leads : FnS := mkFn [.bw, .bw] 2 b__law_leads
/-! _law_row_holds: 0 row, 1 due, 2 verdict, 3 answer -/
def b__law_row_holds : SM :=
  (sSeq (sUnp (gNm 1) (eCall f__law_is_due [.bw (eVar 0)])) (sSeq (sUnp (gNm 2) (eCall f_is_braid_row [.bw (eOp1 lenD (eVar 0)), .bw (eOp1 tupleD (eVar 0))])) (sSeq (sIf (tOr (tNot (tTru (eOp1 (isiD .bool) (eVar 2)))) (tVal (eOp2 neD (eVar 2) (eVar 1)))) (sRet (eC (.bool false))) sNil) (sSeq (sUnp (gNm 3) (eCall f__law_asked [.bw (eVar 0)])) (sSeq (sIf (tNot (tTru (eVar 1))) (sRet (eAnd (eOp2 eqD (eOp2 ixD (eVar 3) (eC (.int 0))) (eC (.str ("refused" : PySem.Str)))) (eOp2 ixD (eVar 3) (eC (.int 1))))) sNil) (sRet (eAnd (eOp2 eqD (eOp2 ixD (eVar 3) (eC (.int 0))) (eC (.str ("word" : PySem.Str)))) (eCall f__law_leads [.bw (eOp2 ixD (eVar 3) (eC (.int 1))), .bw (eVar 0)]))))))))
def f__law_row_holds : FnS := mkFn [.bw] 3 b__law_row_holds
/-! law: 0 script, 1 purse, 2 strands, 3 limit, 4 row, 5 turned, 6 changed -/
def l_law_1 : SM :=
  (sIf (tNot (tTru (eCall f__law_row_holds [.bw (eVar 6)]))) (sRet (eC (.bool false))) sNil)
def b_law : SM :=
  (sSeq (sAsg 1 (eCall f__law_purse [.sc 0, .bw (eC (.int 0))])) (sSeq (sUnp (gNm 2) (eOp2 ixD (eLst (aCons (eC (.int 3)) (aCons (eC (.int 2)) (aCons (eC (.int 3)) (aCons (eC (.int 3)) (aCons (eC (.int 4)) (aCons (eC (.int 4)) (aCons (eC (.int 5)) (aCons (eC (.int 5)) (aCons (eC (.int 1)) (aCons (eC (.int 8)) aNil))))))))))) (eCall f__law_take [.mt 1, .bw (eC (.int 10))]))) (sSeq (sIf (tVal (eOp2 eqD (eVar 2) (eC (.int 8)))) (sUnp (gNm 2) (eOp2 subD (eC (.int 8)) (eCall f__law_take [.mt 1, .bw (eC (.int 3))]))) sNil) (sSeq (sUnp (gNm 3) (eC (.int 200))) (sSeq (sIf (tVal (eOp2 eqD (eCall f__law_take [.mt 1, .bw (eC (.int 12))]) (eC (.int 1)))) (sUnp (gNm 3) (eC (.int 600))) sNil) (sSeq (sUnp (gNm 4) (eCallT f__law_images (eCall f__law_purse [.sc 0, .bw (eC (.int 1))]) [.bw (eVar 2), .bw (eVar 3)])) (sSeq (sIf (tNot (tTru (eCall f__law_row_holds [.bw (eVar 4)]))) (sRet (eC (.bool false))) sNil) (sSeq (sUnp (gNm 5) (eCallT f__law_turned (eCall f__law_purse [.sc 0, .bw (eC (.int 2))]) [.bw (eVar 4)])) (sSeq (sIf (tNot (tTru (eCall f__law_row_holds [.bw (eVar 5)]))) (sRet (eC (.bool false))) sNil) (sSeq (sFor [6] (gNm 6) (itSeq (eCallT f__law_spoilt (eCall f__law_purse [.sc 0, .bw (eC (.int 3))]) [.bw (eVar 5)])) l_law_1) (sRet (eC (.bool true)))))))))))))
def f_law : FnS := mkFn [.sc] 6 b_law
end K15
namespace K15
open PySem J
/-- a purse, taken from at most n times -/
def Bag (n : Int) (bs : List D) : Prop := ∃ a b c : Int, bs = [.int a, .int b, .int c] ∧ 0 ≤ b ∧ b < 2147483648 ∧ 0 ≤ c ∧ c ≤ n
theorem Bag.up {n m : Int} {bs : List D} (h : Bag n bs) (e : n ≤ m) : Bag m bs := by
  obtain ⟨a, b, c, rfl, h1, h2, h3, h4⟩ := h
  exact ⟨a, b, c, rfl, h1, h2, h3, by omega⟩
theorem fmod_nn (a : Int) {m : Int} (h : 0 < m) : 0 ≤ a.fmod m := Int.fmod_nonneg_of_pos a h
theorem fmod_lt (a : Int) {m : Int} (h : 0 < m) : a.fmod m < m := Int.fmod_lt_of_pos a h
theorem cell_ok (ns : List Int) (k : Int) (h0 : 0 ≤ k) (h1 : k < 1000) : ∃ v, f__law_cell [.list (li ns), .int k] = some (.fz (.int v), []) := by
  have hc : ∀ m : List Int, runLc (gNm 2) tYes l__law_cell_1 [2] (li m) [.sc (li ns), .fz (.int k), .no] = some (li (m.map fun x => x.fmod 1000003), [.sc (li ns), .fz (.int k), .no]) := fun m => by
    have := lc_li (g := gNm 2) (t := tYes) (a := l__law_cell_1) (er := [2]) (env := [.sc (li ns), .fz (.int k), .no]) (f := fun x => PyData.int (x.fmod 1000003)) (l := m) fun x _ => by simp (disch := omega) [turnL, l__law_cell_1]
    rw [this, li_map]
  have hl : (cutD ns none (some 3)).length ≤ limit := by
    have := cut_le ns 3 (by decide)
    unfold limit
    omega
  by_cases c : k < ns.length
  · simp (disch := omega) [f__law_cell, q_fn, b__law_cell, c]
  · simp (disch := omega) [f__law_cell, q_fn, b__law_cell, c, hc, hl]
theorem purse_ok (ns : List Int) (k : Int) (h0 : 0 ≤ k) (h1 : k < 1000) : ∃ bs, f__law_purse [.list (li ns), .int k] = some (.ow bs, []) ∧ Bag 0 bs := by
  obtain ⟨v, e⟩ := cell_ok ns k h0 h1
  have n0 := fmod_nn v (m := 2147483629) (by decide)
  have n1 := fmod_lt v (m := 2147483629) (by decide)
  by_cases c : 1000000000000000000 ≤ v
  · simp (disch := omega) [f__law_purse, q_fn, b__law_purse, e, c]
    exact ⟨_, _, _, rfl, n0, by omega, by omega, by omega⟩
  · simp (disch := omega) [f__law_purse, q_fn, b__law_purse, e, c]
    exact ⟨_, _, _, rfl, n0, by omega, by omega, by omega⟩
theorem take_ok {n : Int} (bs : List D) (m : Int) (hb : Bag n bs) (hn : n < 1000000000) (h0 : 0 < m) (h1 : m < 1073741824) : ∃ v bs', f__law_take [.list bs, .int m] = some (.fz (.int v), [bs']) ∧ Bag (n + 1) bs' ∧ 0 ≤ v ∧ v < m := by
  obtain ⟨a, b, c, rfl, hb0, hb1, hc0, hc1⟩ := hb
  have e1 : (m ≠ 0) := by omega
  have n0 := fmod_nn (b * 48271 + (c + 1) * 7368787) (m := 2147483629) (by decide)
  have n1 := fmod_lt (b * 48271 + (c + 1) * 7368787) (m := 2147483629) (by decide)
  have n2 := fmod_nn ((b * 48271 + (c + 1) * 7368787).fmod 2147483629) (m := 65521) (by decide)
  have n3 := fmod_lt ((b * 48271 + (c + 1) * 7368787).fmod 2147483629) (m := 65521) (by decide)
  by_cases ha : 0 < a
  · simp (disch := omega) [f__law_take, q_fn, b__law_take, ixN, ha]
    exact ⟨_, _, ⟨rfl, rfl⟩, ⟨_, _, _, rfl, hb0, hb1, by omega, by omega⟩, fmod_nn _ h0, fmod_lt _ h0⟩
  · simp (disch := omega) [f__law_take, q_fn, b__law_take, ixN, ha]
    exact ⟨_, _, ⟨rfl, rfl⟩, ⟨_, _, _, rfl, hb0, hb1, by omega, by omega⟩, fmod_nn _ h0, fmod_lt _ h0⟩
/-! ### the inverse, free reduction -/
def inv (l : List Int) : List Int := l.reverse.map fun x => -x
theorem inv_len (l : List Int) : (inv l).length = l.length := by simp [inv]
def Wd (l : List Int) (w : D) : Prop := w = .list (li l) ∨ w = .tuple (li l)
theorem against_ok (l : List Int) (h : l.length < 16000000) (w : D) (hw : Wd l w) : f__law_against [w] = some (.fz (.tuple (li (inv l))), []) := by
  have hc : ∀ W, runLc (gNm 1) tYes l__law_against_1 [1] (li l.reverse) [W, .no] = some (li (inv l), [W, .no]) := fun W => by
    have := lc_li (g := gNm 1) (t := tYes) (a := l__law_against_1) (er := [1]) (env := [W, .no]) (f := fun x => PyData.int (-x)) (l := l.reverse) fun x _ => by simp [turnL, l__law_against_1]
    rw [this, li_map]
    rfl
  have hl : l.length ≤ limit := by unfold limit; omega
  rcases hw with rfl | rfl <;> simp [f__law_against, q_fn, b__law_against, hc, hl]
theorem inverse_ok (l : List Int) (h : l.length < 16000000) : f_free_inverse [.tuple (li l)] = some (.fz (.tuple (li (inv l))), []) := by
  have hc : ∀ W, runLc (gNm 1) tYes l_free_inverse_1 [1] (li l.reverse) [W, .no] = some (li (inv l), [W, .no]) := fun W => by
    have := lc_li (g := gNm 1) (t := tYes) (a := l_free_inverse_1) (er := [1]) (env := [W, .no]) (f := fun x => PyData.int (-x)) (l := l.reverse) fun x _ => by simp [turnL, l_free_inverse_1]
    rw [this, li_map]
    rfl
  have hl : l.length ≤ limit := by unfold limit; omega
  simp [f_free_inverse, q_fn, b_free_inverse, hc, hl]
def stp : List Int → Int → List Int
  | y :: t, x => if y = -x then t else x :: y :: t
  | [], x => [x]
theorem stp_c (y : Int) (t : List Int) (x : Int) : stp (y :: t) x = if y = -x then t else x :: y :: t := rfl
def red (l : List Int) : List Int := (l.foldl stp []).reverse
def Rd : List Int → Prop
  | a :: b :: t => b ≠ -a ∧ Rd (b :: t)
  | _ => True
theorem Rd.tl {a : Int} {t : List Int} (h : Rd (a :: t)) : Rd t := by
  cases t with
  | nil => trivial
  | cons b t => exact h.2
theorem stp_rd {s : List Int} (h : Rd s) (x : Int) : Rd (stp s x) := by
  cases s with
  | nil => trivial
  | cons y t =>
    rw [stp_c]
    split
    · exact h.tl
    · rename_i c
      exact ⟨c, h⟩
theorem stp_two {s : List Int} (h : Rd s) (x : Int) : stp (stp s x) (-x) = s := by
  cases s with
  | nil => simp [stp]
  | cons y t =>
    by_cases c : y = -x
    · have e : stp (y :: t) x = t := by rw [stp_c, if_pos c]
      rw [e]
      cases t with
      | nil => simp [stp, c]
      | cons z t =>
        have : z ≠ -y := h.1
        rw [stp_c, if_neg (by rw [c] at this; simpa using this), c]
    · have e : stp (y :: t) x = x :: y :: t := by rw [stp_c, if_neg c]
      rw [e]
      rw [stp_c, if_pos (by omega)]
theorem fold_inv : ∀ (w s : List Int), Rd s → (w ++ inv w).foldl stp s = s
  | [], s, _ => rfl
  | x :: w, s, h => by
    have e : x :: w ++ inv (x :: w) = x :: ((w ++ inv w) ++ [-x]) := by simp [inv]
    rw [e, List.foldl_cons, List.foldl_append, fold_inv w _ (stp_rd h x)]
    exact stp_two h x
theorem red_inv (w : List Int) : red (w ++ inv w) = [] := by
  unfold red
  rw [fold_inv w [] trivial]
  rfl
theorem stp_len (s : List Int) (x : Int) : (stp s x).length ≤ s.length + 1 ∧ ((stp s x).length + s.length) % 2 = 1 := by
  cases s with
  | nil => simp [stp]
  | cons y t =>
    rw [stp_c]
    split <;> simp <;> omega
theorem fold_len : ∀ (l s : List Int), (l.foldl stp s).length ≤ s.length + l.length ∧ ((l.foldl stp s).length + s.length + l.length) % 2 = 0
  | [], s => by simp; omega
  | x :: l, s => by
    have := fold_len l (stp s x)
    have := stp_len s x
    simp only [List.foldl_cons, List.length_cons]
    omega
theorem red_len (l : List Int) : (red l).length ≤ l.length ∧ ((red l).length + l.length) % 2 = 0 := by
  have := fold_len l []
  simpa [red] using this
theorem gt_top (t : List Int) (y : Int) : gt (t.reverse ++ [y]) (-1 + ((t.length : Int) + 1)) = y := by
  have : (-1 + ((t.length : Int) + 1)).toNat = t.reverse.length := by simp; omega
  unfold gt
  rw [this]
  simp
theorem top_ix (t : List Int) (y : Int) : ixD (.list (li (t.reverse ++ [y]))) (.int (-1)) = some (.fz (.int y)) := by
  rw [ixLn (by decide) (by simp; omega), List.length_append, List.length_singleton, List.length_reverse, Int.natCast_add, show ((1 : Nat) : Int) = 1 from rfl, gt_top]
theorem fr_turn (body : SM) (hb : body = l_free_word_1 ∨ body = l__law_reduced_1) (W : Sl) (s : List Int) (x : Int) (hs : s.length < 16000000) :
    turn (gNm 2) body [2] (.int x) [W, .ow (li s.reverse), .no] = some (.go [W, .ow (li (stp s x).reverse), .no]) := by
  cases s with
  | nil => rcases hb with rfl | rfl <;> simp [turn, l_free_word_1, l__law_reduced_1, stp]
  | cons y t =>
    have e := top_ix t y
    simp only [List.length_cons] at hs
    by_cases c : y = -x
    · rcases hb with rfl | rfl <;> simp (disch := omega) [turn, l_free_word_1, l__law_reduced_1, stp_c, c, e] <;> simp [← c, e]
    · rcases hb with rfl | rfl <;> simp (disch := (try simp only [List.length_append, List.length_reverse, List.length_singleton]); omega) [turn, l_free_word_1, l__law_reduced_1, stp_c, c, e]
theorem fr_loop (body : SM) (hb : body = l_free_word_1 ∨ body = l__law_reduced_1) (W : Sl) (l : List Int) (hl : l.length < 16000000) :
    runFor (gNm 2) body [2] (li l) [W, .ow [], .no] = some (.nx [W, .ow (li (red l)), .no]) := by
  obtain ⟨e, h, rfl⟩ := for_li (g := gNm 2) (body := body) (er := [2]) (fun dn env => env = [W, .ow (li (dn.foldl stp []).reverse), .no]) l [] [W, .ow [], .no] rfl fun pre x post env he hI => by
    subst hI
    have hp : pre.length ≤ l.length := by simp only [List.nil_append] at he; rw [he]; simp
    have := (fold_len pre []).1
    refine ⟨_, fr_turn body hb W _ x (by simp at this; omega), ?_⟩
    rw [List.foldl_append]
    rfl
  simpa [red] using h
theorem free_word_ok (l : List Int) (hl : l.length < 16000000) (w : D) (hw : Wd l w) : f_free_word [w] = some (.fz (.tuple (li (red l))), []) := by
  have h := fun W => fr_loop l_free_word_1 (.inl rfl) W l hl
  rcases hw with rfl | rfl <;> simp [f_free_word, q_fn, b_free_word, h]
theorem reduced_ok (l : List Int) (hl : l.length < 16000000) (w : D) (hw : Wd l w) : f__law_reduced [w] = some (.fz (.tuple (li (red l))), []) := by
  have h := fun W => fr_loop l__law_reduced_1 (.inr rfl) W l hl
  rcases hw with rfl | rfl <;> simp [f__law_reduced, q_fn, b__law_reduced, h]
/-! ### products -/
def Tu (l : List Int) : D := .tuple (li l)
theorem product_ok (ls : List (List Int)) (h : ls.flatten.length < 16000000) : f_free_product [.tuple (ls.map Tu)] = some (.fz (Tu (red ls.flatten)), []) := by
  have main : ∀ (rest done : List (List Int)), done ++ rest = ls → runFor (gNm 2) l_free_product_1 [2] (rest.map Tu) [.fz (.tuple (ls.map Tu)), .ow (li done.flatten), .no] = some (.nx [.fz (.tuple (ls.map Tu)), .ow (li ls.flatten), .no]) := by
    intro rest
    induction rest with
    | nil => intro done e; rw [List.append_nil] at e; subst e; rfl
    | cons l rest ih =>
      intro done e
      have hl : done.flatten.length + l.length ≤ 16777216 := by
        rw [← e, List.flatten_append, List.flatten_cons, List.length_append, List.length_append] at h
        omega
      have t : turn (gNm 2) l_free_product_1 [2] (Tu l) [.fz (.tuple (ls.map Tu)), .ow (li done.flatten), .no] = some (.go [.fz (.tuple (ls.map Tu)), .ow (li (done.flatten ++ l)), .no]) := by
        generalize done.flatten = df at *
        simp (disch := omega) [turn, l_free_product_1, Tu]
      rw [List.map_cons, for_go t]
      have := ih (done ++ [l]) (by rw [List.append_assoc]; exact e)
      rw [List.flatten_append] at this
      simpa using this
  have m := main ls [] rfl
  have fw := free_word_ok ls.flatten h _ (.inl rfl)
  simp at m
  generalize ls.flatten = fl at *
  simp [f_free_product, q_fn, b_free_product, m, fw, Tu]
end K15
namespace K15
open PySem J
theorem fold_rd : ∀ (l s : List Int), Rd s → Rd (l.foldl stp s)
  | [], _, h => h
  | x :: l, s, h => fold_rd l _ (stp_rd h x)
theorem fold_red (l : List Int) : ∀ s : List Int, Rd s → (red l).foldl stp s = l.foldl stp s := by
  have main : ∀ (m : List Int), ∀ s : List Int, Rd s → ((m.reverse.foldl stp []).reverse).foldl stp s = m.reverse.foldl stp s := by
    intro m
    induction m with
    | nil => intro s h; rfl
    | cons x m ih =>
      intro s h
      rw [List.reverse_cons, List.foldl_append, List.foldl_append]
      have t := fold_rd m.reverse [] trivial
      have i := ih s h
      generalize m.reverse.foldl stp [] = q at *
      rw [← i]
      cases q with
      | nil => rfl
      | cons y q =>
        simp only [List.foldl_cons, List.foldl_nil]
        rw [stp_c]
        by_cases c : y = -x
        · rw [if_pos c, List.reverse_cons, List.foldl_append]
          have := stp_two (fold_rd q.reverse s h) y
          simp only [List.foldl_cons, List.foldl_nil]
          rw [show x = -y by omega, this]
        · rw [if_neg c]
          simp [List.foldl_append]
  have := main l.reverse
  simp only [List.reverse_reverse] at this
  exact this
/-- one word in the free group -/
def Eqv (a b : List Int) : Prop := ∀ s, Rd s → a.foldl stp s = b.foldl stp s
theorem Eqv.refl (a : List Int) : Eqv a a := fun _ _ => rfl
theorem Eqv.symm {a b : List Int} (h : Eqv a b) : Eqv b a := fun s hs => (h s hs).symm
theorem Eqv.trans {a b c : List Int} (h : Eqv a b) (k : Eqv b c) : Eqv a c := fun s hs => (h s hs).trans (k s hs)
theorem Eqv.app {a b c d : List Int} (h : Eqv a b) (k : Eqv c d) : Eqv (a ++ c) (b ++ d) := fun s hs => by
  rw [List.foldl_append, List.foldl_append, h s hs]
  exact k _ (fold_rd b s hs)
theorem Eqv.red {a b : List Int} (h : Eqv a b) : red a = red b := by
  unfold K15.red
  rw [h [] trivial]
theorem eqv_red (l : List Int) : Eqv (red l) l := fold_red l
theorem eqv_of {a b : List Int} (h : red a = red b) : Eqv a b := (eqv_red a).symm.trans (h ▸ eqv_red b)
theorem eqv_inv (w : List Int) : Eqv (w ++ inv w) [] := fun s hs => fold_inv w s hs
theorem inv_inv (w : List Int) : inv (inv w) = w := by
  unfold inv
  simp [Function.comp_def]
theorem eqv_inv' (w : List Int) : Eqv (inv w ++ w) [] := by
  have := eqv_inv (inv w)
  rwa [inv_inv] at this
theorem inv_app (a b : List Int) : inv (a ++ b) = inv b ++ inv a := by simp [inv]
theorem Eqv.inv {a b : List Int} (h : Eqv a b) : Eqv (inv a) (inv b) := by
  have h1 : Eqv (K15.inv a) (K15.inv a ++ (b ++ K15.inv b)) := by
    have := (Eqv.refl (K15.inv a)).app (eqv_inv b)
    rw [List.append_nil] at this
    exact this.symm
  have h2 : Eqv (K15.inv a ++ (b ++ K15.inv b)) (K15.inv b) := by
    rw [← List.append_assoc]
    have := (((Eqv.refl (K15.inv a)).app h.symm).trans (eqv_inv' a)).app (Eqv.refl (K15.inv b))
    exact this
  exact h1.trans h2
theorem red_rd (l : List Int) : red (red l) = red l := (eqv_red l).red
/-- a reduced word -/
def Red (l : List Int) : Prop := red l = l
theorem red_is (l : List Int) : Red (red l) := red_rd l
/-! ### putting words for the generators -/
def gen (R : List (List Int)) (x : Int) : List Int := if 0 < x then R.getD (x - 1).toNat [] else inv (R.getD (-x - 1).toNat [])
def sub (R : List (List Int)) (w : List Int) : List Int := (w.map (gen R)).flatten
theorem sub_nil (R : List (List Int)) : sub R [] = [] := rfl
theorem sub_cons (R : List (List Int)) (x : Int) (w : List Int) : sub R (x :: w) = gen R x ++ sub R w := rfl
theorem sub_app (R : List (List Int)) (v w : List Int) : sub R (v ++ w) = sub R v ++ sub R w := by simp [sub]
theorem gen_neg (R : List (List Int)) (x : Int) (h : x ≠ 0) : gen R (-x) = inv (gen R x) := by
  unfold gen
  by_cases c : 0 < x
  · rw [if_pos c, if_neg (by omega), Int.neg_neg]
  · rw [if_neg c, if_pos (by omega), inv_inv]
def Nz (l : List Int) : Prop := ∀ x ∈ l, x ≠ 0
theorem Nz.app {a b : List Int} (h : Nz a) (k : Nz b) : Nz (a ++ b) := fun x hx => by
  rcases List.mem_append.mp hx with z | z
  · exact h x z
  · exact k x z
theorem Nz.inv {a : List Int} (h : Nz a) : Nz (inv a) := fun x hx => by
  unfold K15.inv at hx
  obtain ⟨y, hy, rfl⟩ := List.mem_map.mp hx
  have := h y (List.mem_reverse.mp hy)
  omega
theorem sub_inv (R : List (List Int)) : ∀ (w : List Int), Nz w → sub R (inv w) = inv (sub R w)
  | [], _ => rfl
  | x :: w, h => by
    have e : inv (x :: w) = inv w ++ [-x] := by simp [inv]
    rw [e, sub_app, sub_inv R w (fun y hy => h y (List.mem_cons_of_mem _ hy)), sub_cons, sub_cons R x w, inv_app, sub_nil, List.append_nil, gen_neg R x (h x (List.mem_cons_self ..))]
theorem mem_stp {s : List Int} {x y : Int} (h : y ∈ stp s x) : y ∈ s ∨ y = x := by
  cases s with
  | nil => simp [stp] at h; exact .inr h
  | cons z t =>
    rw [stp_c] at h
    split at h
    · exact .inl (List.mem_cons_of_mem _ h)
    · rcases List.mem_cons.mp h with rfl | h
      · exact .inr rfl
      · exact .inl h
theorem mem_fold : ∀ (l s : List Int) {y : Int}, y ∈ l.foldl stp s → y ∈ s ∨ y ∈ l
  | [], s, y, h => .inl h
  | x :: l, s, y, h => by
    rcases mem_fold l (stp s x) h with z | z
    · rcases mem_stp z with z | rfl
      · exact .inl z
      · exact .inr (List.mem_cons_self ..)
    · exact .inr (List.mem_cons_of_mem _ z)
theorem mem_red {l : List Int} {y : Int} (h : y ∈ red l) : y ∈ l := by
  unfold red at h
  rcases mem_fold l [] (List.mem_reverse.mp h) with z | z
  · cases z
  · exact z
theorem Nz.red {l : List Int} (h : Nz l) : Nz (red l) := fun x hx => h x (mem_red hx)
theorem sub_fold (R : List (List Int)) : ∀ (l s : List Int), Nz l → Nz s → Eqv (sub R (l.foldl stp s).reverse) (sub R (s.reverse ++ l))
  | [], s, _, _ => by rw [List.append_nil]; exact Eqv.refl _
  | x :: l, s, hl, hs => by
    have hx : x ≠ 0 := hl x (List.mem_cons_self ..)
    have hl' : Nz l := fun y hy => hl y (List.mem_cons_of_mem _ hy)
    have hs' : Nz (stp s x) := fun y hy => by
      rcases mem_stp hy with z | rfl
      · exact hs y z
      · exact hx
    have i := sub_fold R l (stp s x) hl' hs'
    rw [List.foldl_cons]
    refine i.trans ?_
    have e : s.reverse ++ x :: l = (s.reverse ++ [x]) ++ l := by simp
    rw [e, sub_app, sub_app R (s.reverse ++ [x])]
    refine Eqv.app ?_ (Eqv.refl _)
    cases s with
    | nil => exact Eqv.refl _
    | cons y t =>
      rw [stp_c]
      split
      · rename_i c
        have : y = -x := c
        rw [List.reverse_cons, sub_app, sub_app, sub_cons, sub_cons, sub_nil, List.append_nil, List.append_nil, this, gen_neg R x hx, List.append_assoc]
        have := (Eqv.refl (sub R t.reverse)).app (eqv_inv' (gen R x))
        rw [List.append_nil] at this
        exact this.symm
      · rw [List.reverse_cons]
        exact Eqv.refl _
theorem sub_red (R : List (List Int)) (w : List Int) (h : Nz w) : Eqv (sub R (red w)) (sub R w) := by
  have := sub_fold R w [] h (fun x hx => nomatch hx)
  simpa [red] using this
def sR (R : List (List Int)) (w : List Int) : List Int := red (sub R w)
theorem sub_len (R : List (List Int)) (M : Nat) (hR : ∀ e ∈ R, e.length ≤ M) : ∀ w : List Int, (sub R w).length ≤ w.length * M
  | [] => by simp [sub_nil]
  | x :: w => by
    have i := sub_len R M hR w
    have g : (gen R x).length ≤ M := by
      have d : ∀ k : Nat, (R.getD k []).length ≤ M := fun k => by
        rw [List.getD_eq_getElem?_getD]
        cases q : R[k]? with
        | none => simp
        | some e => exact hR e (List.mem_of_getElem? q)
      unfold gen
      split
      · exact d _
      · rw [inv_len]; exact d _
    rw [sub_cons, List.length_append, List.length_cons, Nat.add_mul]
    omega
/-! ### the action -/
def stepR (a b : List Int) (x : Int) : List (List Int) := if 0 < x then [red (a ++ b ++ inv a), a] else [b, red (inv b ++ a ++ b)]
def ix (x : Int) : Nat := (x.natAbs - 1)
def mv1 (R : List (List Int)) (x : Int) : List (List Int) := R.take (ix x) ++ (stepR (R.getD (ix x) []) (R.getD (ix x + 1) []) x ++ R.drop (ix x + 2))
def rows (w : List Int) (R : List (List Int)) : List (List Int) := w.foldl mv1 R
theorem rows_app (v w : List Int) (R : List (List Int)) : rows (v ++ w) R = rows w (rows v R) := by simp [rows]
theorem rows_cons (x : Int) (w : List Int) (R : List (List Int)) : rows (x :: w) R = rows w (mv1 R x) := rfl
/-- letters that fit n strands -/
def Fits (n : Nat) (w : List Int) : Prop := ∀ x ∈ w, x ≠ 0 ∧ x.natAbs < n
theorem Fits.app {n : Nat} {a b : List Int} (h : Fits n a) (k : Fits n b) : Fits n (a ++ b) := fun x hx => by
  rcases List.mem_append.mp hx with z | z
  · exact h x z
  · exact k x z
theorem Fits.left {n : Nat} {a b : List Int} (h : Fits n (a ++ b)) : Fits n a := fun x hx => h x (List.mem_append_left _ hx)
theorem Fits.right {n : Nat} {a b : List Int} (h : Fits n (a ++ b)) : Fits n b := fun x hx => h x (List.mem_append_right _ hx)
theorem split2 (R : List (List Int)) (i : Nat) (h : i + 1 < R.length) : ∃ p a b q, R = p ++ a :: b :: q ∧ p.length = i ∧ R.getD i [] = a ∧ R.getD (i + 1) [] = b ∧ R.take i = p ∧ R.drop (i + 2) = q := by
  have e : R = R.take i ++ R.drop i := (List.take_append_drop i R).symm
  have pl : (R.take i).length = i := by rw [List.length_take]; omega
  have d1 : R.drop i = R[i] :: R.drop (i + 1) := List.drop_eq_getElem_cons (by omega)
  have d2 : R.drop (i + 1) = R[i + 1] :: R.drop (i + 2) := List.drop_eq_getElem_cons (by omega)
  refine ⟨R.take i, R[i], R[i + 1], R.drop (i + 2), ?_, pl, ?_, ?_, rfl, rfl⟩
  · conv => lhs; rw [e, d1, d2]
  · rw [List.getD_eq_getElem?_getD, List.getElem?_eq_getElem (by omega)]; rfl
  · rw [List.getD_eq_getElem?_getD, List.getElem?_eq_getElem (by omega)]; rfl
/-- a step, told of the parts -/
theorem mv1_parts (p q : List (List Int)) (a b : List Int) (x : Int) (h : p.length = ix x) : mv1 (p ++ a :: b :: q) x = p ++ (stepR a b x ++ q) := by
  unfold mv1
  have e1 : (p ++ a :: b :: q).getD (ix x) [] = a := by rw [← h, List.getD_eq_getElem?_getD]; simp
  have e2 : (p ++ a :: b :: q).getD (ix x + 1) [] = b := by rw [← h, List.getD_eq_getElem?_getD]; simp
  have e3 : (p ++ a :: b :: q).take (ix x) = p := by rw [← h]; simp
  have e4 : (p ++ a :: b :: q).drop (ix x + 2) = q := by rw [← h, List.drop_append]; simp
  rw [e1, e2, e3, e4]
theorem ix_ok {n : Nat} {x : Int} (h : x ≠ 0 ∧ x.natAbs < n) : ix x + 1 < n := by unfold ix; omega
theorem mv_case (R : List (List Int)) (x : Int) (h : x ≠ 0 ∧ x.natAbs < R.length) : ∃ p a b q, R = p ++ a :: b :: q ∧ p.length = ix x ∧ mv1 R x = p ++ (stepR a b x ++ q) := by
  obtain ⟨p, a, b, q, e, pl, _⟩ := split2 R (ix x) (ix_ok h)
  exact ⟨p, a, b, q, e, pl, e ▸ mv1_parts p q a b x pl⟩
theorem mv1_len (R : List (List Int)) (x : Int) (h : x ≠ 0 ∧ x.natAbs < R.length) : (mv1 R x).length = R.length := by
  obtain ⟨p, a, b, q, e, pl, m⟩ := mv_case R x h
  rw [m, e]
  unfold stepR
  split <;> simp
theorem rows_len (w : List Int) : ∀ (R : List (List Int)), Fits R.length w → (rows w R).length = R.length := by
  induction w with
  | nil => intro R _; rfl
  | cons x w ih =>
    intro R h
    have l := mv1_len R x (h x (List.mem_cons_self ..))
    rw [rows_cons, ih _ (by rw [l]; exact fun y hy => h y (List.mem_cons_of_mem _ hy)), l]
/-- all entries have a property -/
def All (P : List Int → Prop) (R : List (List Int)) : Prop := ∀ e ∈ R, P e
theorem all_mv1 {P : List Int → Prop} (h1 : ∀ a b, P a → P b → P (red (a ++ b ++ inv a))) (h2 : ∀ a b, P a → P b → P (red (inv b ++ a ++ b))) {R : List (List Int)} {x : Int} (h : x ≠ 0 ∧ x.natAbs < R.length) (hR : All P R) : All P (mv1 R x) := by
  obtain ⟨p, a, b, q, e, pl, m⟩ := mv_case R x h
  rw [m]
  subst e
  have ha : P a := hR a (by simp)
  have hb : P b := hR b (by simp)
  intro c hc
  simp only [List.mem_append] at hc
  rcases hc with hc | hc | hc
  · exact hR c (by simp [hc])
  · unfold stepR at hc
    split at hc
    · simp only [List.mem_cons, List.not_mem_nil, or_false] at hc
      rcases hc with rfl | rfl
      · exact h1 a b ha hb
      · exact ha
    · simp only [List.mem_cons, List.not_mem_nil, or_false] at hc
      rcases hc with rfl | rfl
      · exact hb
      · exact h2 a b ha hb
  · exact hR c (by simp [hc])
theorem all_rows {P : List Int → Prop} (h1 : ∀ a b, P a → P b → P (red (a ++ b ++ inv a))) (h2 : ∀ a b, P a → P b → P (red (inv b ++ a ++ b))) (w : List Int) : ∀ {R : List (List Int)}, Fits R.length w → All P R → All P (rows w R) := by
  induction w with
  | nil => intro R _ h; exact h
  | cons x w ih =>
    intro R h hR
    have hx := h x (List.mem_cons_self ..)
    rw [rows_cons]
    exact ih (by rw [mv1_len R x hx]; exact fun y hy => h y (List.mem_cons_of_mem _ hy)) (all_mv1 h1 h2 hx hR)
/-- letters are generators 1 .. n -/
def Gn (n : Nat) (l : List Int) : Prop := ∀ x ∈ l, x ≠ 0 ∧ x.natAbs ≤ n
theorem Gn.nz {n : Nat} {l : List Int} (h : Gn n l) : Nz l := fun x hx => (h x hx).1
theorem Gn.app {n : Nat} {a b : List Int} (h : Gn n a) (k : Gn n b) : Gn n (a ++ b) := fun x hx => by
  rcases List.mem_append.mp hx with z | z
  · exact h x z
  · exact k x z
theorem Gn.inv {n : Nat} {a : List Int} (h : Gn n a) : Gn n (inv a) := fun x hx => by
  unfold K15.inv at hx
  obtain ⟨y, hy, rfl⟩ := List.mem_map.mp hx
  have := h y (List.mem_reverse.mp hy)
  omega
theorem Gn.red {n : Nat} {a : List Int} (h : Gn n a) : Gn n (red a) := fun x hx => h x (mem_red hx)
theorem gn_rows {n : Nat} (w : List Int) {R : List (List Int)} (h : Fits R.length w) (hR : All (Gn n) R) : All (Gn n) (rows w R) :=
  all_rows (fun a b ha hb => ((ha.app hb).app ha.inv).red) (fun a b ha hb => ((hb.inv.app ha).app hb).red) w h hR
theorem red_rows (w : List Int) {R : List (List Int)} (h : Fits R.length w) (hR : All Red R) : All Red (rows w R) :=
  all_rows (fun a b _ _ => red_is _) (fun a b _ _ => red_is _) w h hR
/-- the images, put in: a step -/
theorem sR_mv1 (R S : List (List Int)) (x : Int) (h : x ≠ 0 ∧ x.natAbs < S.length) (hS : All Nz S) : (mv1 S x).map (sR R) = mv1 (S.map (sR R)) x := by
  obtain ⟨p, a, b, q, e, pl, m⟩ := mv_case S x h
  rw [m]
  subst e
  have ha : Nz a := hS a (by simp)
  have hb : Nz b := hS b (by simp)
  rw [List.map_append, List.map_append, List.map_append, List.map_cons, List.map_cons, mv1_parts _ _ _ _ _ (by rw [List.length_map]; exact pl)]
  congr 2
  unfold stepR
  split
  · simp only [List.map_cons, List.map_nil, List.cons.injEq, and_true]
    refine Eqv.red ?_
    refine (sub_red R _ ((ha.app hb).app ha.inv)).trans ?_
    rw [sub_app, sub_app, sub_inv R a ha]
    exact ((eqv_red _).symm.app (eqv_red _).symm).app (eqv_red _).symm.inv
  · simp only [List.map_cons, List.map_nil, List.cons.injEq, and_true, true_and]
    refine Eqv.red ?_
    refine (sub_red R _ ((hb.inv.app ha).app hb)).trans ?_
    rw [sub_app, sub_app, sub_inv R b hb]
    exact ((eqv_red _).symm.inv.app (eqv_red _).symm).app (eqv_red _).symm
theorem nz_rows (w : List Int) {R : List (List Int)} (h : Fits R.length w) (hR : All Nz R) : All Nz (rows w R) :=
  all_rows (fun a b ha hb => ((ha.app hb).app ha.inv).red) (fun a b ha hb => ((hb.inv.app ha).app hb).red) w h hR
theorem sR_rows (R : List (List Int)) (w : List Int) : ∀ (S : List (List Int)), Fits S.length w → All Nz S → (rows w S).map (sR R) = rows w (S.map (sR R)) := by
  induction w with
  | nil => intro S _ _; rfl
  | cons x w ih =>
    intro S h hS
    have hx := h x (List.mem_cons_self ..)
    rw [rows_cons, rows_cons, ih (mv1 S x) (by rw [mv1_len S x hx]; exact fun y hy => h y (List.mem_cons_of_mem _ hy)) (nz_rows [x] (fun y hy => by cases List.mem_singleton.mp hy; exact hx) hS), sR_mv1 R S x hx hS]
/-- the generators -/
def start (n : Nat) : List (List Int) := (List.range n).map fun k => [((k : Nat) : Int) + 1]
theorem start_len (n : Nat) : (start n).length = n := by simp [start]
theorem start_gn (n : Nat) : All (Gn n) (start n) := fun e he => by
  obtain ⟨k, hk, rfl⟩ := List.mem_map.mp he
  have := List.mem_range.mp hk
  intro x hx
  cases List.mem_singleton.mp hx
  omega
theorem start_nz (n : Nat) : All Nz (start n) := fun e he => (start_gn n e he).nz
theorem red_one (x : Int) : red [x] = [x] := by simp [red, stp]
theorem start_red (n : Nat) : All Red (start n) := fun e he => by
  obtain ⟨k, hk, rfl⟩ := List.mem_map.mp he
  exact red_one _
theorem start_sub (R : List (List Int)) (h : All Red R) : (start R.length).map (sR R) = R := by
  apply List.ext_getElem
  · simp [start]
  · intro i h1 h2
    have : (start R.length)[i]'(by simpa [start] using h2) = [(i : Int) + 1] := by simp [start]
    rw [List.getElem_map, this]
    unfold sR
    rw [sub_cons, sub_nil, List.append_nil]
    unfold gen
    rw [if_pos (by omega), show ((i : Int) + 1 - 1).toNat = i by omega, List.getD_eq_getElem?_getD, List.getElem?_eq_getElem h2]
    exact h _ (List.getElem_mem h2)
theorem rows_sub (R : List (List Int)) (w : List Int) (hw : Fits R.length w) (h : All Red R) : (rows w (start R.length)).map (sR R) = rows w R := by
  rw [sR_rows R w _ (by rw [start_len]; exact hw) (start_nz _), start_sub R h]
/-! ### the product of the images -/
theorem flat_mv1 (R : List (List Int)) (x : Int) (h : x ≠ 0 ∧ x.natAbs < R.length) : Eqv (mv1 R x).flatten R.flatten := by
  obtain ⟨p, a, b, q, e, pl, m⟩ := mv_case R x h
  rw [m, e, List.flatten_append, List.flatten_append, List.flatten_append, List.flatten_cons, List.flatten_cons, ← List.append_assoc a b q.flatten]
  refine (Eqv.refl _).app (Eqv.app ?_ (Eqv.refl _))
  unfold stepR
  split
  · simp only [List.flatten_cons, List.flatten_nil, List.append_nil]
    refine ((eqv_red _).app (Eqv.refl a)).trans ?_
    rw [List.append_assoc]
    have := (Eqv.refl (a ++ b)).app (eqv_inv' a)
    rwa [List.append_nil] at this
  · simp only [List.flatten_cons, List.flatten_nil, List.append_nil]
    refine ((Eqv.refl b).app (eqv_red _)).trans ?_
    rw [← List.append_assoc, ← List.append_assoc]
    exact ((eqv_inv b).app (Eqv.refl a)).app (Eqv.refl b)
theorem flat_rows (w : List Int) : ∀ (R : List (List Int)), Fits R.length w → Eqv (rows w R).flatten R.flatten := by
  induction w with
  | nil => intro R _; exact Eqv.refl _
  | cons x w ih =>
    intro R h
    have hx := h x (List.mem_cons_self ..)
    rw [rows_cons]
    exact (ih _ (by rw [mv1_len R x hx]; exact fun y hy => h y (List.mem_cons_of_mem _ hy))).trans (flat_mv1 R x hx)
def pos (n : Nat) : List Int := (List.range n).map fun k => ((k : Nat) : Int) + 1
theorem fold_pos : ∀ (l s : List Int), (∀ x ∈ l, 0 < x) → (∀ x ∈ s, 0 < x) → l.foldl stp s = l.reverse ++ s
  | [], _, _, _ => rfl
  | x :: l, s, hl, hs => by
    have hx := hl x (List.mem_cons_self ..)
    have e : stp s x = x :: s := by
      cases s with
      | nil => rfl
      | cons y t =>
        have := hs y (List.mem_cons_self ..)
        rw [stp_c, if_neg (by omega)]
    rw [List.foldl_cons, e, fold_pos l _ (fun y hy => hl y (List.mem_cons_of_mem _ hy)) (fun y hy => by
      rcases List.mem_cons.mp hy with rfl | hy
      · exact hx
      · exact hs y hy)]
    simp
theorem red_pos (n : Nat) : red (pos n) = pos n := by
  unfold red
  rw [fold_pos (pos n) [] (fun x hx => by
    obtain ⟨k, _, rfl⟩ := List.mem_map.mp hx
    omega) (fun x hx => nomatch hx)]
  simp
theorem start_flat (n : Nat) : (start n).flatten = pos n := by
  unfold start pos
  generalize List.range n = l
  induction l with
  | nil => rfl
  | cons a l ih => simp [ih]
theorem flat_ok (n : Nat) (w : List Int) (h : Fits n w) : red (rows w (start n)).flatten = pos n := by
  have := flat_rows w (start n) (by rw [start_len]; exact h)
  rw [this.red, start_flat, red_pos]
/-! ### one step and back -/
theorem mv1_back (R : List (List Int)) (x : Int) (h : x ≠ 0 ∧ x.natAbs < R.length) (hR : All Red R) : mv1 (mv1 R x) (-x) = R := by
  obtain ⟨p, a, b, q, e, pl, m⟩ := mv_case R x h
  rw [m]
  have hi : ix (-x) = ix x := by unfold ix; omega
  subst e
  have ha : red a = a := hR a (by simp)
  have hb : red b = b := hR b (by simp)
  by_cases c : 0 < x
  · have s1 : stepR a b x = [red (a ++ b ++ inv a), a] := if_pos c
    rw [s1, show p ++ ([red (a ++ b ++ inv a), a] ++ q) = p ++ red (a ++ b ++ inv a) :: a :: q from rfl, mv1_parts _ _ _ _ _ (by rw [hi]; exact pl)]
    unfold stepR
    rw [if_neg (by omega)]
    have : red (inv a ++ red (a ++ b ++ inv a) ++ a) = b := by
      rw [← hb]
      conv => rhs; rw [← red_rd]
      refine Eqv.red ?_
      rw [hb]
      refine (((Eqv.refl _).app (eqv_red _)).app (Eqv.refl _)).trans ?_
      rw [List.append_assoc, List.append_assoc, List.append_assoc, ← List.append_assoc (inv a) a]
      have := (eqv_inv' a).app ((Eqv.refl b).app (eqv_inv' a))
      rw [List.append_nil, List.nil_append] at this
      exact this
    rw [this]
    rfl
  · have s1 : stepR a b x = [b, red (inv b ++ a ++ b)] := if_neg c
    rw [s1, show p ++ ([b, red (inv b ++ a ++ b)] ++ q) = p ++ b :: red (inv b ++ a ++ b) :: q from rfl, mv1_parts _ _ _ _ _ (by rw [hi]; exact pl)]
    unfold stepR
    rw [if_pos (by omega)]
    have : red (b ++ red (inv b ++ a ++ b) ++ inv b) = a := by
      rw [← ha]
      conv => rhs; rw [← red_rd]
      refine Eqv.red ?_
      rw [ha]
      refine (((Eqv.refl _).app (eqv_red _)).app (Eqv.refl _)).trans ?_
      rw [List.append_assoc, List.append_assoc, List.append_assoc, ← List.append_assoc b (inv b)]
      have := (eqv_inv b).app ((Eqv.refl a).app (eqv_inv b))
      rw [List.append_nil, List.nil_append] at this
      exact this
    rw [this]
    rfl
/-! ### bounds -/
def Le (C : Nat) (e : List Int) : Prop := e.length ≤ C
def Small (R : List (List Int)) (w : List Int) (C : Nat) : Prop := ∀ p q, w = p ++ q → All (Le C) (rows p R)
theorem Small.up {R w C C'} (h : Small R w C) (e : C ≤ C') : Small R w C' := fun p q z e' he => Nat.le_trans (h p q z e' he) e
theorem small_nil {R C} (h : All (Le C) R) : Small R [] C := fun p q z => by
  have : p = [] := by cases p <;> simp_all
  subst this
  exact h
theorem Small.app {R u w C} (h : Small R u C) (k : Small (rows u R) w C) : Small R (u ++ w) C := fun p q z => by
  rcases List.append_eq_append_iff.mp z.symm with ⟨t, e1, e2⟩ | ⟨t, e1, e2⟩
  · exact h p t e1
  · subst e1
    rw [rows_app]
    exact k t q e2
theorem Small.left {R u w C} (h : Small R (u ++ w) C) : Small R u C := fun p q z => h p (q ++ w) (by rw [z, List.append_assoc])
theorem Small.right {R u w C} (h : Small R (u ++ w) C) : Small (rows u R) w C := fun p q z => by
  have := h (u ++ p) q (by rw [z, List.append_assoc])
  rwa [rows_app] at this
theorem Small.all {R w C} (h : Small R w C) : All (Le C) (rows w R) := h w [] (by simp)
theorem le_mv1 {R : List (List Int)} {x : Int} {C : Nat} (h : x ≠ 0 ∧ x.natAbs < R.length) (hR : All (Le C) R) : All (Le (3 * C)) (mv1 R x) := by
  obtain ⟨p, a, b, q, e, pl, m⟩ := mv_case R x h
  rw [m]
  subst e
  have ha : a.length ≤ C := hR a (by simp)
  have hb : b.length ≤ C := hR b (by simp)
  intro c hc
  simp only [List.mem_append] at hc
  unfold Le
  rcases hc with hc | hc | hc
  · have : c.length ≤ C := hR c (by simp [hc])
    omega
  · unfold stepR at hc
    split at hc
    · simp only [List.mem_cons, List.not_mem_nil, or_false] at hc
      rcases hc with rfl | rfl
      · have := (red_len (a ++ b ++ inv a)).1
        simp only [List.length_append, inv_len] at this
        omega
      · omega
    · simp only [List.mem_cons, List.not_mem_nil, or_false] at hc
      rcases hc with rfl | rfl
      · omega
      · have := (red_len (inv b ++ a ++ b)).1
        simp only [List.length_append, inv_len] at this
        omega
  · have : c.length ≤ C := hR c (by simp [hc])
    omega
theorem small_any (w : List Int) : ∀ (R : List (List Int)) (C : Nat), Fits R.length w → All (Le C) R → Small R w (C * 3 ^ w.length) := by
  induction w with
  | nil => intro R C _ h; exact small_nil (by simpa using h)
  | cons x w ih =>
    intro R C h hR p q z
    have hx := h x (List.mem_cons_self ..)
    cases p with
    | nil =>
      intro e he
      have := hR e he
      unfold Le at *
      have : 1 ≤ 3 ^ (x :: w).length := Nat.one_le_pow _ _ (by decide)
      calc e.length ≤ C * 1 := by omega
        _ ≤ _ := Nat.mul_le_mul_left _ this
    | cons y p =>
      rw [List.cons_append] at z
      obtain ⟨z1, z2⟩ := List.cons.inj z
      subst z1
      rw [rows_cons]
      have := ih (mv1 R x) (3 * C) (by rw [mv1_len R x hx]; exact fun y hy => h y (List.mem_cons_of_mem _ hy)) (le_mv1 hx hR) p q z2
      intro e he
      have := this e he
      unfold Le at *
      rw [List.length_cons, Nat.pow_succ]
      calc _ ≤ 3 * C * 3 ^ w.length := this
        _ = _ := by rw [Nat.mul_comm 3 C, Nat.mul_assoc, Nat.mul_comm 3]
theorem Small.snoc {R : List (List Int)} {u v : List Int} {C : Nat} (hf : Fits R.length (u ++ v)) (h : Small R u C) : Small R (u ++ v) (C * 3 ^ v.length) := by
  have e : 1 ≤ 3 ^ v.length := Nat.one_le_pow _ _ (by decide)
  have : C ≤ C * 3 ^ v.length := by
    calc C = C * 1 := by omega
      _ ≤ _ := Nat.mul_le_mul_left _ e
  exact (h.up this).app (small_any v _ C (by rw [rows_len _ _ hf.left]; exact hf.right) h.all)
theorem small_sub {R : List (List Int)} {w : List Int} {C M : Nat} (hf : Fits R.length w) (hR : All Red R) (hM : All (Le M) R) (h : Small (start R.length) w C) : Small R w (C * M) := fun p q z => by
  have hp : Fits R.length p := fun x hx => hf x (by rw [z]; exact List.mem_append_left _ hx)
  rw [← rows_sub R p hp hR]
  intro e he
  obtain ⟨f, hf', rfl⟩ := List.mem_map.mp he
  have := h p q z f hf'
  unfold Le at *
  have h2 := (red_len (sub R f)).1
  have h3 := sub_len R M hM f
  unfold sR
  have : f.length * M ≤ C * M := Nat.mul_le_mul_right _ this
  omega
end K15
namespace K15
open PySem J
/-! ### rows of words -/
def tl (R : List (List Int)) : List D := R.map Tu
theorem tu_def (l : List Int) : Tu l = .tuple (li l) := rfl
@[simp] theorem tl_len (R : List (List Int)) : (tl R).length = R.length := by simp [tl]
@[simp] theorem tl_set (R : List (List Int)) (i : Nat) (l : List Int) : (tl R).set i (.tuple (li l)) = tl (R.set i l) := by
  unfold tl
  rw [← tu_def, List.map_set]
@[simp] theorem tl_nil : tl [] = [] := rfl
@[simp] theorem tl_one (R : List (List Int)) (l : List Int) : tl R ++ [.tuple (li l)] = tl (R ++ [l]) := by simp [tl, Tu]
theorem tl_cons (l : List Int) (R : List (List Int)) : tl (l :: R) = .tuple (li l) :: tl R := rfl
def gR (R : List (List Int)) (i : Int) : List Int := R.getD i.toNat []
theorem tl_get {R : List (List Int)} {i : Int} (h0 : 0 ≤ i) (h1 : i < R.length) : (tl R)[i.toNat]? = some (.tuple (li (gR R i))) := by
  unfold tl gR
  rw [List.getElem?_map, List.getD_eq_getElem?_getD, List.getElem?_eq_getElem (by omega)]
  rfl
@[simp] theorem ixTL {R : List (List Int)} {i : Int} (h0 : 0 ≤ i) (h1 : i < R.length) : ixD (.list (tl R)) (.int i) = some (.fz (.tuple (li (gR R i)))) := by
  unfold ixD
  simp only [tl_len, ixN_nn h0 h1, tl_get h0 h1]
@[simp] theorem ixTT {R : List (List Int)} {i : Int} (h0 : 0 ≤ i) (h1 : i < R.length) : ixD (.tuple (tl R)) (.int i) = some (.fz (.tuple (li (gR R i)))) := by
  unfold ixD
  simp only [tl_len, ixN_nn h0 h1, tl_get h0 h1]
@[simp] theorem apTL {i : Nat} {l : List Int} {e : J.Env} {R : List (List Int)} (h : R.length < 16777216) : kApp3 i (.tuple (li l)) e (some (.ow (tl R))) = some (.nx (e.set i (.ow (tl (R ++ [l]))))) := by
  rw [kApp3_1, if_pos (by unfold limit; simpa using h), tl_one]
@[simp] theorem tl_shp (n : Nat) (R : List (List Int)) : (tl R).all (shp (n + 1)) = true := by
  unfold tl
  rw [List.all_map, List.all_eq_true]
  intro l _
  simp [Tu]
theorem tl_beq : ∀ (R S : List (List Int)), beqDs (tl R) (tl S) = decide (R = S)
  | [], [] => rfl
  | [], _ :: _ => by simp [tl, beqDs]
  | _ :: _, [] => by simp [tl, beqDs]
  | l :: R, m :: S => by
    rw [tl_cons, tl_cons, beqDs, tl_beq R S, li_beqT]
    by_cases c : l = m <;> by_cases d : R = S <;> simp [c, d]
@[simp] theorem tl_beqL (R S : List (List Int)) : beqD (.list (tl R)) (.list (tl S)) = decide (R = S) := by rw [beqD, tl_beq]
def Wl (R : List (List Int)) (w : D) : Prop := w = .list (tl R) ∨ w = .tuple (tl R)
theorem set2 (R : List (List Int)) (i : Nat) (u v : List Int) (h : i + 1 < R.length) : (R.set i u).set (i + 1) v = R.take i ++ (u :: v :: R.drop (i + 2)) := by
  obtain ⟨p, a, b, q, e, pl, _, _, e1, e2⟩ := split2 R i h
  rw [e1, e2]
  subst e
  rw [← pl]
  simp
theorem tu_red (l : List Int) : Tu (red l) = .tuple (li (red l)) := rfl
/-- the words are small enough -/
def Ok (R : List (List Int)) : Prop := All (Le 4000000) R
theorem gR_le {R : List (List Int)} {C : Nat} (h : All (Le C) R) (i : Int) : (gR R i).length ≤ C := by
  unfold gR
  rw [List.getD_eq_getElem?_getD]
  cases q : R[i.toNat]? with
  | none => simp
  | some e => exact h e (List.mem_of_getElem? q)
theorem moved_ok (R : List (List Int)) (x : Int) (h : x ≠ 0 ∧ x.natAbs < R.length) (hR : Ok R) : f__law_moved [.list (tl R), .int x] = some (.ow (tl (mv1 R x)), []) := by
  obtain ⟨i, hi⟩ : ∃ i : Int, i = (x.natAbs : Int) - 1 := ⟨_, rfl⟩
  have hx : ix x = i.toNat := by unfold ix; omega
  have ha := gR_le hR i
  have hb := gR_le hR (i + 1)
  have s2 := fun u v => set2 R i.toNat u v (by omega)
  have ag := against_ok (gR R i) (by omega) _ (.inr rfl)
  have ag2 := against_ok (gR R (i + 1)) (by omega) _ (.inr rfl)
  have i1 := inv_len (gR R i)
  have i2 := inv_len (gR R (i + 1))
  have re := reduced_ok (gR R i ++ gR R (i + 1) ++ inv (gR R i)) (by simp only [List.length_append]; omega) _ (.inr rfl)
  have re2 := reduced_ok (inv (gR R (i + 1)) ++ gR R i ++ gR R (i + 1)) (by simp only [List.length_append]; omega) _ (.inr rfl)
  have e1 : (i + 1).toNat = i.toNat + 1 := by omega
  have m1 : mv1 R x = R.take i.toNat ++ (stepR (gR R i) (gR R (i + 1)) x ++ R.drop (i.toNat + 2)) := by
    unfold mv1 gR
    rw [hx, e1]
  rw [m1]
  unfold stepR
  have main : f__law_moved [.list (tl R), .int x] = some (.ow (tl (R.take i.toNat ++ ((if 0 < x then [red (gR R i ++ gR R (i + 1) ++ inv (gR R i)), gR R i] else [gR R (i + 1), red (inv (gR R (i + 1)) ++ gR R i ++ gR R (i + 1))]) ++ R.drop (i.toNat + 2)))), []) := by
    by_cases c : 0 < x
    · rw [if_pos c, List.cons_append, List.cons_append, List.nil_append, ← s2]
      simp (disch := (try simp only [List.length_append, List.length_set, tl_len]); omega) [f__law_moved, q_fn, b__law_moved, ← hi, ag, re, c, e1, - List.append_assoc]
    · rw [if_neg c, List.cons_append, List.cons_append, List.nil_append, ← s2]
      simp (disch := (try simp only [List.length_append, List.length_set, tl_len]); omega) [f__law_moved, q_fn, b__law_moved, ← hi, ag2, re2, c, e1, - List.append_assoc]
  exact main
theorem product3 (a b c : List Int) (h : a.length + b.length + c.length < 16000000) : f_free_product [.tuple [.tuple (li a), .tuple (li b), .tuple (li c)]] = some (.fz (.tuple (li (red (a ++ b ++ c)))), []) := by
  have := product_ok [a, b, c] (by simp; omega)
  simpa [Tu] using this
theorem conj_ok (w b : List Int) (h : w.length + 2 * b.length < 16000000) : f_conjugated_free [.tuple (li w), .tuple (li b)] = some (.fz (.tuple (li (red (b ++ w ++ inv b)))), []) := by
  have il := inv_len b
  have iv := inverse_ok b (by omega)
  have pr := product3 b w (inv b) (by omega)
  simp [f_conjugated_free, q_fn, b_conjugated_free, iv, pr]
theorem over_ok (a b : List Int) (h : b.length + 2 * a.length < 16000000) : f__over [.tuple (li a), .tuple (li b)] = some (.fz (.tuple (li (red (a ++ b ++ inv a)))), []) := by
  have c := conj_ok b a h
  simp [f__over, q_fn, b__over, c]
theorem under_ok (a b : List Int) (h : a.length + 2 * b.length < 16000000) : f__under [.tuple (li a), .tuple (li b)] = some (.fz (.tuple (li (red (inv b ++ a ++ b)))), []) := by
  have il := inv_len b
  have iv := inverse_ok b (by omega)
  have c := conj_ok a (inv b) (by omega)
  rw [inv_inv] at c
  simp [f__under, q_fn, b__under, iv, c]
theorem act_turn (a b : Sl) (R : List (List Int)) (x : Int) (h : x ≠ 0 ∧ x.natAbs < R.length) (hR : Ok R) : turn (gNm 3) l_act_1 [3, 4, 5, 6] (.int x) [a, b, .ow (tl R), .no, .no, .no, .no] = some (.go [a, b, .ow (tl (mv1 R x)), .no, .no, .no, .no]) := by
  obtain ⟨i, hi⟩ : ∃ i : Int, i = (x.natAbs : Int) - 1 := ⟨_, rfl⟩
  have hx : ix x = i.toNat := by unfold ix; omega
  have hi' : (x.natAbs : Int) = i + 1 := by omega
  have ha := gR_le hR i
  have hb := gR_le hR (i + 1)
  have s2 := fun u v => set2 R i.toNat u v (by omega)
  have ov := over_ok (gR R i) (gR R (i + 1)) (by omega)
  have un := under_ok (gR R i) (gR R (i + 1)) (by omega)
  have e1 : (i + 1).toNat = i.toNat + 1 := by omega
  have m1 : mv1 R x = R.take i.toNat ++ (stepR (gR R i) (gR R (i + 1)) x ++ R.drop (i.toNat + 2)) := by
    unfold mv1 gR
    rw [hx, e1]
  rw [m1]
  unfold stepR
  by_cases c : 0 < x
  · rw [if_pos c, List.cons_append, List.cons_append, List.nil_append, ← s2]
    simp (disch := (try simp only [List.length_append, List.length_set, tl_len]); omega) [turn, l_act_1, hi', ov, c, e1, - List.append_assoc]
  · rw [if_neg c, List.cons_append, List.cons_append, List.nil_append, ← s2]
    simp (disch := (try simp only [List.length_append, List.length_set, tl_len]); omega) [turn, l_act_1, hi', un, c, e1, - List.append_assoc]
def Big : Nat := 1000000
theorem small_ok {R w p q} (h : Small R w Big) (e : w = p ++ q) : Ok (rows p R) := fun x hx => by
  have := h p q e x hx
  unfold Le Big at *
  omega
theorem run_loop (g : G) (body : SM) (er : List Nat) (E : List (List Int) → J.Env) (ht : ∀ R x, (x ≠ 0 ∧ x.natAbs < R.length) → Ok R → turn g body er (.int x) (E R) = some (.go (E (mv1 R x)))) (R : List (List Int)) (w : List Int) (hf : Fits R.length w) (hs : Small R w Big) :
    runFor g body er (li w) (E R) = some (.nx (E (rows w R))) := by
  obtain ⟨e, h, rfl⟩ := for_li (g := g) (body := body) (er := er) (fun dn env => env = E (rows dn R)) w [] (E R) rfl fun pre x post env he hI => by
    subst hI
    simp only [List.nil_append] at he
    have hp : Fits R.length pre := fun y hy => hf y (by rw [he]; simp [hy])
    have hx := hf x (by rw [he]; simp)
    refine ⟨_, ht (rows pre R) x (by rw [rows_len _ _ hp]; exact hx) (small_ok hs he), ?_⟩
    rw [rows_app]
    rfl
  simpa using h
theorem act_ok (R : List (List Int)) (w : List Int) (hf : Fits R.length w) (hs : Small R w Big) (r u : D) (hr : Wl R r) (hu : Wd w u) : f_act [r, u] = some (.fz (.tuple (tl (rows w R))), []) := by
  have l := fun a b => run_loop (gNm 3) l_act_1 [3, 4, 5, 6] (fun R => [a, b, .ow (tl R), .no, .no, .no, .no]) (fun R x h1 h2 => act_turn a b R x h1 h2) R w hf hs
  rcases hr with rfl | rfl <;> rcases hu with rfl | rfl <;> simp [f_act, q_fn, b_act, l]
end K15
namespace K15
open PySem J
theorem start_ok (n : Int) (h0 : 0 ≤ n) (h1 : n < 1000) : f__law_start [.int n] = some (.ow (tl (start n.toNat)), []) := by
  have hc := lc_rng (g := gNm 1) (t := tYes) (a := l__law_start_1) (er := [1]) (env := [.fz (.int n), .no]) (f := fun k => .tuple [.int (k + 1)]) n.toNat 0 fun k _ _ => by simp [turnL, l__law_start_1]
  have e : ((List.range n.toNat).map fun (i : Nat) => PyData.tuple [.int (0 + (i : Int) + 1)]) = tl (start n.toNat) := by
    unfold tl start Tu li
    rw [List.map_map]
    apply List.map_congr_left
    intro k _
    simp
  rw [e] at hc
  have hl : n.toNat ≤ limit := by unfold limit; omega
  simp (disch := omega) [f__law_start, q_fn, b__law_start, hc, hl]
end K15
namespace K15
open PySem J
/-! ### reduced words -/
theorem rd_cons2 {a b : Int} {t : List Int} : Rd (a :: b :: t) ↔ b ≠ -a ∧ Rd (b :: t) := Iff.rfl
theorem rd_mid : ∀ {u v : List Int} {x : Int}, Rd (u ++ x :: v) ↔ Rd (u ++ [x]) ∧ Rd (x :: v)
  | [], v, x => by simp [Rd]
  | [a], v, x => by simp [Rd]
  | a :: b :: u, v, x => by
    have := rd_mid (u := b :: u) (v := v) (x := x)
    simp only [List.cons_append] at this ⊢
    rw [rd_cons2, rd_cons2, this]
    exact ⟨fun ⟨p, q, r⟩ => ⟨⟨p, q⟩, r⟩, fun ⟨⟨p, q⟩, r⟩ => ⟨p, q, r⟩⟩
theorem rd_rev : ∀ {l : List Int}, Rd l → Rd l.reverse
  | [], _ => trivial
  | [a], _ => trivial
  | a :: b :: t, h => by
    have ih := rd_rev (l := b :: t) h.2
    rw [List.reverse_cons, List.reverse_cons]
    rw [List.reverse_cons] at ih
    rw [List.append_assoc]
    show Rd (t.reverse ++ b :: [a])
    rw [rd_mid]
    refine ⟨ih, ?_, trivial⟩
    have := h.1
    intro e
    exact this (by omega)
theorem fold_push : ∀ (l s : List Int), Rd (l.reverse ++ s) → l.foldl stp s = l.reverse ++ s
  | [], s, _ => rfl
  | x :: l, s, h => by
    have e : (x :: l).reverse ++ s = l.reverse ++ x :: s := by simp
    rw [e] at h ⊢
    rw [List.foldl_cons]
    have hs : stp s x = x :: s := by
      cases s with
      | nil => rfl
      | cons y t =>
        have := (rd_mid.mp h).2
        rw [stp_c, if_neg this.1]
    rw [hs]
    exact fold_push l _ h
theorem red_of_rd {l : List Int} (h : Rd l) : red l = l := by
  unfold red
  rw [fold_push l [] (by rw [List.append_nil]; exact rd_rev h)]
  simp
theorem rd_of_red {l : List Int} (h : Red l) : Rd l := by
  rw [← h]
  exact rd_rev (fold_rd l [] trivial)
theorem rd_app_l : ∀ {u v : List Int}, Rd (u ++ v) → Rd u
  | [], _, _ => trivial
  | [a], _, _ => trivial
  | a :: b :: u, v, h => ⟨h.1, rd_app_l (u := b :: u) h.2⟩
theorem rd_app_r : ∀ {u v : List Int}, Rd (u ++ v) → Rd v
  | [], _, h => h
  | a :: u, v, h => rd_app_r (u := u) (Rd.tl h)
def ng (l : List Int) : List Int := l.map fun x => -x
theorem inv_ng (l : List Int) : inv l = (ng l).reverse := by simp [inv, ng, List.map_reverse]
theorem inv_rev (l : List Int) : (inv l).reverse = ng l := by rw [inv_ng, List.reverse_reverse]
theorem ng_app (a b : List Int) : ng (a ++ b) = ng a ++ ng b := by simp [ng]
theorem ng_len (a : List Int) : (ng a).length = a.length := by simp [ng]
/-- what cancels between two reduced words -/
theorem cancel : ∀ (v s : List Int), Rd s → Rd v → ∃ c s' q, s = ng c ++ s' ∧ v = c ++ q ∧ Rd (q.reverse ++ s')
  | [], s, hs, _ => ⟨[], s, [], rfl, rfl, hs⟩
  | y :: v, [], _, hv => ⟨[], [], y :: v, rfl, rfl, by rw [List.append_nil]; exact rd_rev hv⟩
  | y :: v, t :: s, hs, hv => by
    by_cases e : t = -y
    · obtain ⟨c, s', q, h1, h2, h3⟩ := cancel v s hs.tl hv.tl
      exact ⟨y :: c, s', q, by rw [e, h1]; rfl, by rw [h2]; rfl, h3⟩
    · refine ⟨[], t :: s, y :: v, rfl, rfl, ?_⟩
      have e2 : (y :: v).reverse ++ t :: s = v.reverse ++ y :: (t :: s) := by simp
      rw [e2, rd_mid]
      refine ⟨?_, e, hs⟩
      have := rd_rev hv
      rwa [List.reverse_cons] at this
theorem pop_ng : ∀ (c s : List Int), c.foldl stp (ng c ++ s) = s
  | [], s => rfl
  | x :: c, s => by
    show (c.foldl stp (stp (-x :: (ng c ++ s)) x)) = s
    rw [stp_c, if_pos rfl]
    exact pop_ng c s
/-! ### conjugates -/
/-- a conjugate of the letter x by g -/
def cj (g : List Int) (x : Int) : List Int := g ++ x :: inv g
theorem cj_len (g : List Int) (x : Int) : (cj g x).length = 2 * g.length + 1 := by simp [cj, inv]; omega
theorem cj_rev (g : List Int) (x : Int) : (cj g x).reverse = ng g ++ x :: g.reverse := by
  unfold cj
  rw [List.reverse_append, List.reverse_cons, inv_rev, List.append_assoc]
  rfl
theorem inv_cj (g : List Int) (x : Int) : inv (cj g x) = cj g (-x) := by
  unfold cj
  rw [inv_app]
  have : inv (x :: inv g) = g ++ [-x] := by
    show inv ([x] ++ inv g) = _
    rw [inv_app, inv_inv]
    rfl
  rw [this, List.append_assoc]
  rfl
theorem eqv_len {a b : List Int} (h : Eqv a b) : (red a).length ≤ b.length := by
  rw [h.red]
  exact (red_len b).1
/-- neither letter shortens -/
def NG (a b : List Int) : Prop := b.length ≤ (red (a ++ b ++ inv a)).length ∧ a.length ≤ (red (inv b ++ a ++ b)).length
theorem eqv_mid {a b c d : List Int} (h : Eqv b c) : Eqv (a ++ b ++ d) (a ++ c ++ d) := ((Eqv.refl a).app h).app (Eqv.refl d)
theorem gain1 (g h' : List Int) (x y : Int) : (red (cj g x ++ cj (g ++ -x :: h') y ++ inv (cj g x))).length ≤ 2 * g.length + 2 * h'.length + 1 := by
  rw [inv_cj]
  have e : Eqv (cj g x ++ cj (g ++ -x :: h') y ++ cj g (-x)) (g ++ cj h' y ++ inv g) := by
    have z1 : cj g x ++ cj (g ++ -x :: h') y ++ cj g (-x) = g ++ [x] ++ (inv g ++ g) ++ ([-x] ++ cj h' y ++ [x]) ++ (inv g ++ g) ++ ([-x] ++ inv g) := by
      unfold cj
      have : inv (g ++ -x :: h') = inv h' ++ [x] ++ inv g := by
        rw [show g ++ -x :: h' = g ++ ([-x] ++ h') from rfl, inv_app, inv_app]
        simp [inv]
      rw [this]
      simp [List.append_assoc]
    rw [z1]
    have k1 : Eqv (inv g ++ g) [] := eqv_inv' g
    have k2 : Eqv ([x] ++ [-x]) [] := eqv_inv [x]
    have s1 : Eqv (g ++ [x] ++ (inv g ++ g) ++ ([-x] ++ cj h' y ++ [x]) ++ (inv g ++ g) ++ ([-x] ++ inv g)) (g ++ [x] ++ [] ++ ([-x] ++ cj h' y ++ [x]) ++ [] ++ ([-x] ++ inv g)) :=
      (((((Eqv.refl _).app k1).app (Eqv.refl _)).app k1).app (Eqv.refl _))
    refine s1.trans ?_
    have z2 : g ++ [x] ++ [] ++ ([-x] ++ cj h' y ++ [x]) ++ [] ++ ([-x] ++ inv g) = g ++ ([x] ++ [-x]) ++ cj h' y ++ ([x] ++ [-x]) ++ inv g := by simp [List.append_assoc]
    rw [z2]
    have s2 : Eqv (g ++ ([x] ++ [-x]) ++ cj h' y ++ ([x] ++ [-x]) ++ inv g) (g ++ [] ++ cj h' y ++ [] ++ inv g) := ((((Eqv.refl g).app k2).app (Eqv.refl _)).app k2).app (Eqv.refl _)
    refine s2.trans ?_
    simp
    exact Eqv.refl _
  refine Nat.le_trans (eqv_len e) ?_
  simp [cj_len, inv_len]
  omega
theorem gain2 (h g' : List Int) (x y : Int) : (red (inv (cj h y) ++ cj (h ++ y :: g') x ++ cj h y)).length ≤ 2 * h.length + 2 * g'.length + 1 := by
  have := gain1 h g' (-y) x
  rw [inv_cj, Int.neg_neg] at this
  rwa [inv_cj]
/-- without a gain the centres stay -/
theorem stays {g h : List Int} {x y : Int} (hx : 0 < x) (hy : 0 < y) (n : NG (cj g x) (cj h y)) (rg : Rd (cj g x)) (rh : Rd (cj h y)) :
    ∃ c g' h', g = c ++ g' ∧ h = c ++ h' ∧ Rd ((h' ++ y :: inv h).reverse ++ (ng g' ++ [x])) := by
  obtain ⟨c, s', q, h1, h2, h3⟩ := cancel (cj h y) (cj g x).reverse (rd_rev rg) rh
  rw [cj_rev] at h1
  -- the two stacks side by side
  have pre : ∀ {k : Nat}, k ≤ c.length → (cj h y).take k = c.take k ∧ (ng g ++ x :: g.reverse).take k = ng (c.take k) := fun {k} hk => by
    constructor
    · rw [h2, List.take_append_of_le_length hk]
    · rw [h1, List.take_append_of_le_length (by rw [ng_len]; exact hk)]
      simp [ng, List.map_take]
  have key : c.length ≤ g.length ∧ c.length ≤ h.length := by
    refine Classical.byContradiction fun hn => ?_
    rcases Nat.lt_trichotomy g.length h.length with hl | hl | hl
    · have hk : g.length + 1 ≤ c.length := by omega
      obtain ⟨p1, p2⟩ := pre hk
      have t1 : (ng g ++ x :: g.reverse).take (g.length + 1) = ng g ++ [x] := by
        rw [List.take_append, List.take_of_length_le (by rw [ng_len]; omega), ng_len]
        simp
      have t2 : (cj h y).take (g.length + 1) = h.take (g.length + 1) := by
        unfold cj
        rw [List.take_append_of_le_length (by omega)]
      have t3 : c.take (g.length + 1) = g ++ [-x] := by
        have : ng (c.take (g.length + 1)) = ng (g ++ [-x]) := by
          rw [← p2, t1, ng_app]
          simp [ng]
        have inj : ∀ {a b : List Int}, ng a = ng b → a = b := fun {a b} e => by
          have := congrArg ng e
          simpa [ng, Function.comp_def] using this
        exact inj this
      have t4 : h = g ++ -x :: h.drop (g.length + 1) := by
        conv => lhs; rw [← List.take_append_drop (g.length + 1) h]
        rw [← t2, p1, t3, List.append_assoc]
        rfl
      have := gain1 g (h.drop (g.length + 1)) x y
      rw [← t4] at this
      have n1 := n.1
      rw [cj_len] at n1
      rw [List.length_drop] at this
      omega
    · have hk : g.length + 1 ≤ c.length := by omega
      obtain ⟨p1, p2⟩ := pre hk
      have t1 : (ng g ++ x :: g.reverse).take (g.length + 1) = ng g ++ [x] := by
        rw [List.take_append, List.take_of_length_le (by rw [ng_len]; omega), ng_len]
        simp
      have t2 : (cj h y).take (g.length + 1) = h ++ [y] := by
        unfold cj
        rw [hl, List.take_append, List.take_of_length_le (by omega)]
        simp
      have e : ng g ++ [x] = ng (h ++ [y]) := by rw [← t1, p2, ← p1, t2]
      rw [ng_app] at e
      have := (List.append_inj' e rfl).2
      simp [ng] at this
      omega
    · have hk : h.length + 1 ≤ c.length := by omega
      obtain ⟨p1, p2⟩ := pre hk
      have t1 : (ng g ++ x :: g.reverse).take (h.length + 1) = ng (g.take (h.length + 1)) := by
        rw [List.take_append_of_le_length (by rw [ng_len]; omega)]
        simp [ng, List.map_take]
      have t2 : (cj h y).take (h.length + 1) = h ++ [y] := by
        unfold cj
        rw [List.take_append, List.take_of_length_le (by omega)]
        simp
      have t3 : g.take (h.length + 1) = h ++ [y] := by
        have inj : ∀ {a b : List Int}, ng a = ng b → a = b := fun {a b} e => by
          have := congrArg ng e
          simpa [ng, Function.comp_def] using this
        exact inj (by rw [← t1, p2, ← p1, t2])
      have t4 : g = h ++ y :: g.drop (h.length + 1) := by
        conv => lhs; rw [← List.take_append_drop (h.length + 1) g]
        rw [t3, List.append_assoc]
        rfl
      have := gain2 h (g.drop (h.length + 1)) x y
      rw [← t4] at this
      have n2 := n.2
      rw [cj_len] at n2
      rw [List.length_drop] at this
      omega
  obtain ⟨k1, k2⟩ := key
  have a1 : g.take c.length = c := by
    obtain ⟨_, p2⟩ := pre (Nat.le_refl c.length)
    rw [List.take_append_of_le_length (by rw [ng_len]; exact k1), List.take_length] at p2
    have inj : ∀ {a b : List Int}, ng a = ng b → a = b := fun {a b} e => by
      have := congrArg ng e
      simpa [ng, Function.comp_def] using this
    refine inj ?_
    rw [← p2]
    simp [ng, List.map_take]
  have a2 : h.take c.length = c := by
    obtain ⟨p1, _⟩ := pre (Nat.le_refl c.length)
    unfold cj at p1
    rw [List.take_append_of_le_length k2, List.take_length] at p1
    exact p1
  have b1 : g = c ++ g.drop c.length := by conv => lhs; rw [← List.take_append_drop c.length g, a1]
  have b2 : h = c ++ h.drop c.length := by conv => lhs; rw [← List.take_append_drop c.length h, a2]
  refine ⟨c, _, _, b1, b2, ?_⟩
  have c1 : s' = ng (g.drop c.length) ++ x :: g.reverse := by
    have : ng c ++ s' = ng c ++ (ng (g.drop c.length) ++ x :: g.reverse) := by
      rw [← h1, ← List.append_assoc, ← ng_app, ← b1]
    exact List.append_cancel_left this
  have c2 : q = h.drop c.length ++ y :: inv h := by
    have : c ++ q = c ++ (h.drop c.length ++ y :: inv h) := by
      rw [← h2, ← List.append_assoc, ← b2]
      rfl
    exact List.append_cancel_left this
  rw [c1, c2, ← List.append_assoc] at h3
  have := (rd_mid.mp h3).1
  rwa [List.append_assoc] at this
end K15
namespace K15
open PySem J
/-! ### Artin: a row of conjugates with the due product and no gain is the start -/
def NGs : List Int → List (List Int × Int) → Prop
  | _, [] => True
  | w, (h, y) :: L => NG w (cj h y) ∧ NGs (cj h y) L
def wds (L : List (List Int × Int)) : List (List Int) := L.map fun p => cj p.1 p.2
theorem go : ∀ (L : List (List Int × Int)) (g : List Int) (x : Int) (T : List Int), Rd (ng g ++ x :: T) → Rd (cj g x) → 0 < x → (∀ p ∈ L, 0 < p.2 ∧ Rd (cj p.1 p.2)) → NGs (cj g x) L →
    T.length + 1 + L.length ≤ ((wds L).flatten.foldl stp (ng g ++ x :: T)).length ∧ (((wds L).flatten.foldl stp (ng g ++ x :: T)).length = T.length + 1 + L.length → g = [] ∧ ∀ p ∈ L, p.1 = [])
  | [], g, x, T, hr, hg, hx, hL, hn => by
    simp only [wds, List.map_nil, List.flatten_nil, List.foldl_nil, List.length_append, ng_len, List.length_cons, List.length_nil]
    refine ⟨by omega, fun e => ⟨List.length_eq_zero_iff.mp (by omega), fun p hp => by cases hp⟩⟩
  | (h, y) :: L, g, x, T, hr, hg, hx, hL, hn => by
    obtain ⟨hy, hh⟩ := hL (h, y) List.mem_cons_self
    obtain ⟨c, g', h', e1, e2, r⟩ := stays hx hy hn.1 hg hh
    have step : (cj h y).foldl stp (ng g ++ x :: T) = ng h ++ y :: (h'.reverse ++ (ng g' ++ x :: T)) := by
      have t : Rd ((h' ++ y :: inv h).reverse ++ (ng g' ++ x :: T)) := by
        rw [← List.append_assoc] at r ⊢
        rw [rd_mid]
        refine ⟨r, ?_⟩
        exact (rd_mid.mp hr).2
      have a1 : cj h y = c ++ (h' ++ y :: inv h) := by
        show h ++ y :: inv h = _
        conv => lhs; lhs; rw [e2]
        rw [List.append_assoc]
      have a2 : ng g ++ x :: T = ng c ++ (ng g' ++ x :: T) := by
        conv => lhs; lhs; rw [e1, ng_app]
        rw [List.append_assoc]
      rw [a1, a2, List.foldl_append, pop_ng, fold_push _ _ t]
      rw [List.reverse_append, List.reverse_cons, inv_rev]
      simp [List.append_assoc]
    have hr' : Rd (ng h ++ y :: (h'.reverse ++ (ng g' ++ x :: T))) := by
      rw [← step]
      exact fold_rd _ _ hr
    have ih := go L h y _ hr' hh hy (fun p hp => hL p (List.mem_cons_of_mem _ hp)) hn.2
    have e : (wds ((h, y) :: L)).flatten = cj h y ++ (wds L).flatten := rfl
    rw [e, List.foldl_append, step]
    obtain ⟨i1, i2⟩ := ih
    simp only [List.length_append, List.length_reverse, ng_len, List.length_cons] at i1 i2 ⊢
    refine ⟨by omega, fun z => ?_⟩
    obtain ⟨j1, j2⟩ := i2 (by omega)
    have h0 : h'.length = 0 ∧ g'.length = 0 := by omega
    have g0 : g' = [] := List.length_eq_zero_iff.mp h0.2
    have c0 : c = [] := by
      have : (c ++ h').length = 0 := by rw [← e2, j1]; rfl
      rw [List.length_append] at this
      exact List.length_eq_zero_iff.mp (by omega)
    refine ⟨by rw [e1, c0, g0]; rfl, fun p hp => ?_⟩
    rcases List.mem_cons.mp hp with rfl | hp
    · exact j1
    · exact j2 p hp
theorem pos_len (n : Nat) : (pos n).length = n := by simp [pos]
theorem artin (L : List (List Int × Int)) (hL : ∀ p ∈ L, 0 < p.2 ∧ Rd (cj p.1 p.2)) (hn : match L with | [] => True | (g, x) :: M => NGs (cj g x) M) (hp : red (wds L).flatten = pos L.length) : wds L = start L.length := by
  cases L with
  | nil => rfl
  | cons p M =>
    obtain ⟨g, x⟩ := p
    obtain ⟨hx, hg⟩ := hL (g, x) List.mem_cons_self
    have e : (wds ((g, x) :: M)).flatten = cj g x ++ (wds M).flatten := rfl
    have st : (cj g x).foldl stp [] = ng g ++ x :: g.reverse := by
      rw [fold_push _ [] (by rw [List.append_nil]; exact rd_rev hg), List.append_nil, cj_rev]
    have hr : Rd (ng g ++ x :: g.reverse) := by rw [← cj_rev]; exact rd_rev hg
    obtain ⟨i1, i2⟩ := go M g x g.reverse hr hg hx (fun p hp => hL p (List.mem_cons_of_mem _ hp)) hn
    have hl : ((wds M).flatten.foldl stp (ng g ++ x :: g.reverse)).length = M.length + 1 := by
      have := congrArg List.length hp
      rw [pos_len, e] at this
      unfold red at this
      rw [List.foldl_append, st, List.length_reverse] at this
      simpa using this
    rw [List.length_reverse] at i1 i2
    obtain ⟨g0, h0⟩ := i2 (by omega)
    have all0 : ∀ p ∈ (g, x) :: M, p.1 = [] := fun p hp => by
      rcases List.mem_cons.mp hp with rfl | hp
      · exact g0
      · exact h0 p hp
    have flat : ∀ (M : List (List Int × Int)), (∀ p ∈ M, p.1 = []) → wds M = (M.map (·.2)).map (fun x => [x]) := fun M => by
      induction M with
      | nil => intro _; rfl
      | cons p M ih =>
        intro h
        have := h p List.mem_cons_self
        obtain ⟨a, b⟩ := p
        simp only at this
        subst this
        have := ih fun p hp => h p (List.mem_cons_of_mem _ hp)
        show cj [] b :: wds M = _
        rw [this]
        rfl
    have fl2 : ∀ (l : List Int), (l.map (fun x => [x])).flatten = l := fun l => by
      induction l with
      | nil => rfl
      | cons a l ih => rw [List.map_cons, List.flatten_cons, ih]; rfl
    have w := flat _ all0
    rw [w] at hp ⊢
    rw [fl2] at hp
    have rp : red (((g, x) :: M).map (·.2)) = ((g, x) :: M).map (·.2) := by
      unfold red
      rw [fold_pos _ [] (fun z hz => by
        obtain ⟨p, p1, p2⟩ := List.mem_map.mp hz
        rw [← p2]
        exact (hL p p1).1) (fun z hz => by cases hz)]
      simp
    rw [rp] at hp
    rw [hp]
    simp [pos, start]
/-! ### gains -/
/-- the row is one of conjugates with the due product -/
def IsRow (R : List (List Int)) : Prop := (∀ e ∈ R, ∃ g x, 0 < x ∧ e = cj g x) ∧ red R.flatten = pos R.length
theorem pairs_of : ∀ {R : List (List Int)}, (∀ e ∈ R, ∃ g x, 0 < x ∧ e = cj g x) → ∃ L : List (List Int × Int), R = wds L ∧ ∀ p ∈ L, 0 < p.2
  | [], _ => ⟨[], rfl, fun p hp => by cases hp⟩
  | e :: R, h => by
    obtain ⟨g, x, hx, rfl⟩ := h e List.mem_cons_self
    obtain ⟨L, h1, h2⟩ := pairs_of (R := R) fun e he => h e (List.mem_cons_of_mem _ he)
    refine ⟨(g, x) :: L, by rw [h1]; rfl, fun p hp => ?_⟩
    rcases List.mem_cons.mp hp with rfl | hp
    · exact hx
    · exact h2 p hp
theorem start_of {R : List (List Int)} (h : IsRow R) (hr : All Red R) (hn : ∀ i, i + 1 < R.length → NG (R.getD i []) (R.getD (i + 1) [])) : R = start R.length := by
  obtain ⟨L, rfl, hp⟩ := pairs_of h.1
  have hl : (wds L).length = L.length := by simp [wds]
  rw [hl] at hn ⊢
  have ngs : ∀ (L : List (List Int × Int)) (g : List Int) (x : Int), (∀ i, i + 1 < ((g, x) :: L).length → NG ((wds ((g, x) :: L)).getD i []) ((wds ((g, x) :: L)).getD (i + 1) [])) → NGs (cj g x) L := by
    intro L
    induction L with
    | nil => intro g x _; trivial
    | cons p L ih =>
      obtain ⟨h, y⟩ := p
      intro g x hn
      refine ⟨hn 0 (by simp), ih h y fun i hi => ?_⟩
      have := hn (i + 1) (by simpa using hi)
      simpa [wds] using this
  refine artin L (fun p hpm => ⟨hp p hpm, rd_of_red (hr _ (List.mem_map.mpr ⟨p, hpm, rfl⟩))⟩) ?_ (by rw [h.2, hl])
  cases L with
  | nil => trivial
  | cons p M => exact ngs M p.1 p.2 hn
theorem rd_ng : ∀ {l : List Int}, Rd l → Rd (ng l)
  | [], _ => trivial
  | [a], _ => trivial
  | a :: b :: t, h => ⟨fun e => h.1 (by have e' : -b = - -a := e; omega), rd_ng (l := b :: t) h.2⟩
theorem rd_inv {l : List Int} (h : Rd l) : Rd (inv l) := by rw [inv_ng]; exact rd_rev (rd_ng h)
theorem cj_red : ∀ (n : Nat) (k : List Int) (x : Int), k.length ≤ n → Rd k → ∃ g, Rd (cj g x) ∧ Eqv (cj k x) (cj g x)
  | n, [], x, _, _ => ⟨[], trivial, Eqv.refl _⟩
  | 0, _ :: _, x, hl, _ => by simp at hl
  | n + 1, b :: t, x, hl, hk => by
    have hne : b :: t ≠ [] := by simp
    have e := (List.dropLast_concat_getLast hne).symm
    generalize hk1 : (b :: t).dropLast = k1 at e
    generalize (b :: t).getLast hne = a at e
    have l1 : k1.length ≤ n := by rw [← hk1, List.length_dropLast]; simp at hl ⊢; omega
    rw [e] at hk ⊢
    have r1 : Rd k1 := rd_app_l hk
    have ex : cj (k1 ++ [a]) x = k1 ++ ([a] ++ [x] ++ [-a]) ++ inv k1 := by
      unfold cj
      rw [inv_app]
      simp [inv]
    by_cases c : a = x ∨ a = -x
    · obtain ⟨g, h1, h2⟩ := cj_red n k1 x l1 r1
      refine ⟨g, h1, Eqv.trans ?_ h2⟩
      rw [ex]
      have : Eqv ([a] ++ [x] ++ [-a]) [x] := by
        rcases c with rfl | rfl
        · have := (Eqv.refl [a]).app (eqv_inv [a])
          exact this
        · have := (eqv_inv' [x]).app (Eqv.refl [x])
          rw [Int.neg_neg]
          exact this
      have := eqv_mid (a := k1) (d := inv k1) this
      refine this.trans ?_
      unfold cj
      rw [List.append_assoc]
      exact Eqv.refl _
    · refine ⟨k1 ++ [a], ?_, Eqv.refl _⟩
      have ri := rd_inv hk
      have ei : inv (k1 ++ [a]) = -a :: inv k1 := by rw [inv_app]; rfl
      unfold cj
      rw [List.append_assoc, show [a] ++ x :: inv (k1 ++ [a]) = a :: x :: inv (k1 ++ [a]) from rfl, rd_mid]
      refine ⟨hk, fun e => c (.inr (by omega)), ?_⟩
      rw [ei] at ri ⊢
      exact ⟨fun e => c (.inl (by omega)), ri⟩
theorem red_cj (u g : List Int) (x : Int) : ∃ g', red (u ++ cj g x ++ inv u) = cj g' x := by
  obtain ⟨g', h1, h2⟩ := cj_red _ (red (u ++ g)) x (Nat.le_refl _) (rd_of_red (red_is _))
  refine ⟨g', ?_⟩
  have e1 : u ++ cj g x ++ inv u = (u ++ g) ++ [x] ++ inv (u ++ g) := by
    unfold cj
    rw [inv_app]
    simp [List.append_assoc]
  have e2 : cj (red (u ++ g)) x = red (u ++ g) ++ [x] ++ inv (red (u ++ g)) := by unfold cj; simp [List.append_assoc]
  have : Eqv ((u ++ g) ++ [x] ++ inv (u ++ g)) (cj g' x) := by
    refine Eqv.trans ?_ h2
    rw [e2]
    exact (((eqv_red _).symm).app (Eqv.refl _)).app ((eqv_red _).symm.inv)
  rw [e1, this.red]
  exact red_of_rd h1
def IsCj (e : List Int) : Prop := ∃ g x, 0 < x ∧ e = cj g x
theorem isRow_mv {R : List (List Int)} {x : Int} (h : x ≠ 0 ∧ x.natAbs < R.length) (hR : IsRow R) : IsRow (mv1 R x) := by
  refine ⟨all_mv1 (P := IsCj) (fun a b _ hb => ?_) (fun a b ha _ => ?_) h hR.1, ?_⟩
  · obtain ⟨g, y, hy, rfl⟩ := hb
    obtain ⟨g', e⟩ := red_cj a g y
    exact ⟨g', y, hy, e⟩
  · obtain ⟨g, y, hy, rfl⟩ := ha
    obtain ⟨g', e⟩ := red_cj (inv b) g y
    rw [inv_inv] at e
    exact ⟨g', y, hy, e⟩
  · rw [(flat_mv1 R x h).red, hR.2, mv1_len R x h]
def tot (R : List (List Int)) : Nat := R.flatten.length
/-- the letter x shortens R -/
def Sh (R : List (List Int)) (x : Int) : Prop := (x ≠ 0 ∧ x.natAbs < R.length) ∧ tot (mv1 R x) < tot R
theorem sh_pos {R : List (List Int)} {i : Nat} (h : i + 1 < R.length) (g : (red (R.getD i [] ++ R.getD (i + 1) [] ++ inv (R.getD i []))).length < (R.getD (i + 1) []).length) : Sh R ((i : Int) + 1) := by
  have hx : ((i : Int) + 1) ≠ 0 ∧ ((i : Int) + 1).natAbs < R.length := by omega
  refine ⟨hx, ?_⟩
  obtain ⟨p, a, b, q, rfl, h2, h3, h4, h5, h6⟩ := split2 R i h
  rw [h3, h4] at g
  have hi : p.length = ix ((i : Int) + 1) := by unfold ix; omega
  rw [mv1_parts p q a b _ hi]
  unfold stepR tot
  rw [if_pos (by omega)]
  simp only [List.flatten_append, List.flatten_cons, List.length_append, List.flatten_nil, List.length_nil]
  omega
theorem sh_neg {R : List (List Int)} {i : Nat} (h : i + 1 < R.length) (g : (red (inv (R.getD (i + 1) []) ++ R.getD i [] ++ R.getD (i + 1) [])).length < (R.getD i []).length) : Sh R (-((i : Int) + 1)) := by
  have hx : (-((i : Int) + 1)) ≠ 0 ∧ (-((i : Int) + 1)).natAbs < R.length := by omega
  refine ⟨hx, ?_⟩
  obtain ⟨p, a, b, q, rfl, h2, h3, h4, h5, h6⟩ := split2 R i h
  rw [h3, h4] at g
  have hi : p.length = ix (-((i : Int) + 1)) := by unfold ix; omega
  rw [mv1_parts p q a b _ hi]
  unfold stepR tot
  rw [if_neg (by omega)]
  simp only [List.flatten_append, List.flatten_cons, List.length_append, List.flatten_nil, List.length_nil]
  omega
/-! ### the way back -/
theorem rows_back : ∀ (w : List Int) (R : List (List Int)), Fits R.length w → All Red R → rows (inv w) (rows w R) = R
  | [], R, _, _ => rfl
  | x :: w, R, hf, hr => by
    have hx := hf x List.mem_cons_self
    have hl := mv1_len R x hx
    have hf' : Fits (mv1 R x).length w := by rw [hl]; exact fun y hy => hf y (List.mem_cons_of_mem _ hy)
    have hr' : All Red (mv1 R x) := all_mv1 (fun a b _ _ => red_is _) (fun a b _ _ => red_is _) hx hr
    have e : inv (x :: w) = inv w ++ [-x] := by rw [show x :: w = [x] ++ w from rfl, inv_app]; rfl
    rw [e, rows_app, rows_cons x w R, rows_back w _ hf' hr']
    exact mv1_back R x hx hr
theorem rows_stp (s : List Int) (x : Int) (R : List (List Int)) (hs : Fits R.length s) (hx : x ≠ 0 ∧ x.natAbs < R.length) (hr : All Red R) : rows (stp s x).reverse R = rows (s.reverse ++ [x]) R := by
  cases s with
  | nil => rfl
  | cons y t =>
    rw [stp_c]
    by_cases c : y = -x
    · rw [if_pos c]
      have ft : Fits R.length t.reverse := fun z hz => hs z (List.mem_cons_of_mem _ (List.mem_reverse.mp hz))
      have hl := rows_len t.reverse R ft
      have h1 := mv1_back (rows t.reverse R) y (by rw [hl]; exact hs y List.mem_cons_self) (red_rows t.reverse ft hr)
      rw [c, Int.neg_neg] at h1
      rw [List.reverse_cons, List.append_assoc, rows_app, c]
      show _ = mv1 (mv1 (rows t.reverse R) (-x)) x
      rw [h1]
    · rw [if_neg c, List.reverse_cons]
theorem rows_fold : ∀ (w s : List Int) (R : List (List Int)), Fits R.length s → Fits R.length w → All Red R → rows (w.foldl stp s).reverse R = rows (s.reverse ++ w) R
  | [], s, R, _, _, _ => by simp
  | x :: w, s, R, hs, hw, hr => by
    have hx := hw x List.mem_cons_self
    have hs' : Fits R.length (stp s x) := fun z hz => by
      rcases mem_stp hz with h | h
      · exact hs z h
      · rw [h]; exact hx
    rw [List.foldl_cons, rows_fold w _ R hs' (fun y hy => hw y (List.mem_cons_of_mem _ hy)) hr, rows_app, rows_stp s x R hs hx hr, ← rows_app]
    simp
theorem rows_red (w : List Int) (R : List (List Int)) (hw : Fits R.length w) (hr : All Red R) : rows (red w) R = rows w R := by
  have := rows_fold w [] R (fun z hz => by cases hz) hw hr
  simpa [red] using this
end K15
namespace K15
open PySem J
/-! ### conjugates, as the program and the law look for them -/
def CjP (e : List Int) : Prop := e.length % 2 = 1 ∧ 0 ≤ gt e (e.length / 2 : Nat) ∧ e.drop (e.length / 2 + 1) = inv (e.take (e.length / 2))
instance (e : List Int) : Decidable (CjP e) := by unfold CjP; infer_instance
theorem fd2 {n : Nat} {m : Nat} (h : n / 2 = m) : ((n : Int)).fdiv 2 = (m : Int) := by rw [Int.fdiv_eq_ediv_of_nonneg _ (by decide)]; omega
theorem fm2 {n : Nat} {m : Nat} (h : n % 2 = m) : ((n : Int)).fmod 2 = (m : Int) := by rw [Int.fmod_eq_emod_of_nonneg _ (by decide)]; omega
theorem cp_ok (e : List Int) (h : e.length < 4000001) : ∃ d, f_conjugate_parts [.tuple (li e)] = some (.fz d, []) ∧ (d = .none ↔ ¬ CjP e) := by
  by_cases c : e.length % 2 = 0
  · have f2 : (e.length : Int).fmod 2 = 0 := by simpa using fm2 c
    refine ⟨.none, ?_, by simp; unfold CjP; omega⟩
    simp (disch := omega) [f_conjugate_parts, q_fn, b_conjugate_parts, f2]
  · have f2 : (e.length : Int).fmod 2 = 1 := by
      have := fm2 (n := e.length) (m := 1) (by omega)
      simpa using this
    have iv := inverse_ok (e.take (e.length / 2)) (by rw [List.length_take]; omega)
    have ct := cut_to e (b := ((e.length / 2 : Nat) : Int)) (by omega) (by omega)
    have cf := cut_from e (a := ((e.length / 2 : Nat) : Int) + 1) (by omega) (by omega)
    have n1 : (((e.length / 2 : Nat) : Int) + 1).toNat = e.length / 2 + 1 := by omega
    have n2 : (((e.length / 2 : Nat) : Int)).toNat = e.length / 2 := by omega
    rw [n1] at cf
    rw [n2] at ct
    have f1 := fd2 (n := e.length) rfl
    unfold CjP
    generalize hm : e.length / 2 = m at *
    have hml : m < e.length := by omega
    by_cases c2 : gt e (m : Int) < 0
    · refine ⟨.none, ?_, by simp; omega⟩
      simp (disch := omega) [f_conjugate_parts, q_fn, b_conjugate_parts, f1, f2, ct, cf, iv, c2]
    · by_cases c3 : e.drop (m + 1) = inv (e.take m)
      · refine ⟨.tuple [.tuple (li (e.take m)), .int (gt e m)], ?_, by simp; exact ⟨by omega, by omega, c3⟩⟩
        simp (disch := omega) [f_conjugate_parts, q_fn, b_conjugate_parts, f1, f2, ct, cf, iv, c2, c3]
      · refine ⟨.none, ?_, by simp; exact fun _ _ => c3⟩
        simp (disch := omega) [f_conjugate_parts, q_fn, b_conjugate_parts, f1, f2, ct, cf, iv, c2, c3]
theorem inv_get (l : List Int) (j : Nat) (h : j < l.length) : gt (inv l) j = - gt l (l.length - 1 - j : Nat) := by
  rw [gt_nat, gt_nat]
  unfold inv
  rw [List.getD_eq_getElem?_getD, List.getD_eq_getElem?_getD, List.getElem?_map, List.getElem?_reverse h]
  cases q : l[l.length - 1 - j]? with
  | none => rw [List.getElem?_eq_none_iff] at q; omega
  | some v => simp
theorem gt_ext {a b : List Int} (hl : a.length = b.length) (h : ∀ j : Nat, j < a.length → gt a j = gt b j) : a = b := by
  refine List.ext_getElem hl fun j h1 h2 => ?_
  have := h j h1
  rw [gt_nat, gt_nat, List.getD_eq_getElem?_getD, List.getD_eq_getElem?_getD, List.getElem?_eq_getElem h1, List.getElem?_eq_getElem h2] at this
  simpa using this
theorem half_iff (e : List Int) (m : Nat) (hl : e.length = 2 * m + 1) : e.drop (m + 1) = inv (e.take m) ↔ ∀ k : Nat, k < m → gt e k = - gt e (2 * m - k : Nat) := by
  have l1 : (e.drop (m + 1)).length = m := by rw [List.length_drop]; omega
  have l2 : (e.take m).length = m := by rw [List.length_take]; omega
  have l3 : (inv (e.take m)).length = m := by rw [inv_len, l2]
  have g1 : ∀ j : Nat, gt (e.drop (m + 1)) j = gt e (m + 1 + j : Nat) := fun j => by
    rw [gt_nat, gt_nat, List.getD_eq_getElem?_getD, List.getD_eq_getElem?_getD, List.getElem?_drop]
  have g2 : ∀ j : Nat, j < m → gt (inv (e.take m)) j = - gt e (m - 1 - j : Nat) := fun j hj => by
    rw [inv_get _ _ (by omega), l2]
    congr 1
    rw [gt_nat, gt_nat, List.getD_eq_getElem?_getD, List.getD_eq_getElem?_getD, List.getElem?_take_of_lt (by omega)]
  constructor
  · intro z k hk
    have : gt (e.drop (m + 1)) ((m - 1 - k : Nat) : Int) = gt (inv (e.take m)) ((m - 1 - k : Nat) : Int) := by rw [z]
    rw [g1, g2 _ (by omega)] at this
    rw [show m + 1 + (m - 1 - k) = 2 * m - k by omega, show m - 1 - (m - 1 - k) = k by omega] at this
    omega
  · intro z
    refine gt_ext (by omega) fun j hj => ?_
    rw [g1, g2 _ (by omega)]
    have := z (m - 1 - j) (by omega)
    rw [show 2 * m - (m - 1 - j) = m + 1 + j by omega] at this
    omega
theorem isc_b (e : List Int) (h : e.length < 4000001) : ∃ b : Bool, f__law_is_conjugate [.tuple (li e)] = some (.fz (.bool b), []) ∧ (b = true ↔ CjP e) := by
  have f1 := fd2 (n := e.length) rfl
  by_cases c : e.length % 2 = 0
  · refine ⟨false, ?_, by unfold CjP; simp; omega⟩
    have e1 : ((e.length : Int) = 2 * ((e.length / 2 : Nat) : Int) + 1) = False := eq_false (by omega)
    generalize e.length / 2 = m at *
    simp (disch := omega) [f__law_is_conjugate, q_fn, b__law_is_conjugate, f1, e1]
  · have hml : e.length = 2 * (e.length / 2) + 1 := by omega
    have hi := half_iff e (e.length / 2) hml
    have cjp : CjP e ↔ (0 ≤ gt e ((e.length / 2 : Nat) : Int) ∧ ∀ k : Nat, k < e.length / 2 → gt e k = - gt e (2 * (e.length / 2) - k : Nat)) := by
      unfold CjP
      rw [hi]
      exact ⟨fun z => z.2, fun z => ⟨by omega, z⟩⟩
    rw [cjp]
    clear cjp hi c
    generalize e.length / 2 = m at *
    have e1 : ((e.length : Int) = 2 * (m : Int) + 1) = True := eq_true (by omega)
    by_cases c2 : gt e (m : Int) < 0
    · refine ⟨false, ?_, by simp; omega⟩
      simp (disch := omega) [f__law_is_conjugate, q_fn, b__law_is_conjugate, f1, e1, c2]
    · have L := for_rngR (g := gNm 2) (body := l__law_is_conjugate_1) (er := [2]) (fun k E => E = [.fz (.tuple (li e)), .fz (.int (m : Int)), .no] ∧ ∀ j : Nat, (j : Int) < k → gt e j = - gt e (2 * m - j : Nat))
        (fun fl => (∃ a b, fl = .rt (.fz (.bool false)) [.fz (.tuple (li e)), a, b]) ∧ ¬ ∀ k : Nat, k < m → gt e k = - gt e (2 * m - k : Nat)) m 0 [.fz (.tuple (li e)), .fz (.int (m : Int)), .no] ⟨rfl, fun j hj => by omega⟩ (fun k E h0 h1 ⟨hE, hk⟩ => by
          subst hE
          obtain ⟨k', rfl⟩ : ∃ k' : Nat, k = k' := ⟨k.toNat, by omega⟩
          obtain ⟨j', hj'⟩ : ∃ j' : Nat, j' = 2 * m - k' := ⟨_, rfl⟩
          have e3 : (e.length : Int) - 1 - (k' : Int) = (j' : Int) := by omega
          by_cases c3 : gt e (k' : Int) = - gt e (j' : Int)
          · refine .inl ⟨_, ?_, rfl, fun j hj => ?_⟩
            · simp (disch := omega) [turn, l__law_is_conjugate_1, e3, c3]
            · by_cases q : j = k'
              · subst q; rw [c3, hj']
              · exact hk j (by omega)
          · refine .inr ⟨.rt (.fz (.bool false)) [.fz (.tuple (li e)), .fz (.int (m : Int)), .fz (.int (k' : Int))], ?_, ⟨_, _, rfl⟩, ?_⟩
            · simp (disch := omega) [turn, l__law_is_conjugate_1, e3, c3]
            · intro z
              refine c3 ?_
              have := z k' (by omega)
              rw [← hj'] at this
              exact this)
      rcases L with ⟨E, q1, q2, q3⟩ | ⟨fl, q1, q2, q3⟩
      · subst q2
        refine ⟨true, ?_, by simp only [true_iff]; exact ⟨by omega, fun k hk => q3 k (by omega)⟩⟩
        simp (disch := omega) [f__law_is_conjugate, q_fn, b__law_is_conjugate, f1, e1, c2, q1]
      · obtain ⟨a, b, q2⟩ := q2
        subst q2
        refine ⟨false, ?_, by simp only [Bool.false_eq_true, false_iff]; exact fun z => q3 z.2⟩
        simp (disch := omega) [f__law_is_conjugate, q_fn, b__law_is_conjugate, f1, e1, c2, q1]
theorem isc_ok (e : List Int) (h : e.length < 4000001) : f__law_is_conjugate [.tuple (li e)] = some (.fz (.bool (decide (CjP e))), []) := by
  obtain ⟨b, h1, h2⟩ := isc_b e h
  rw [h1]
  by_cases c : CjP e
  · rw [decide_eq_true c, h2.mpr c]
  · rw [decide_eq_false c]
    cases b with
    | false => rfl
    | true => exact absurd (h2.mp rfl) c
theorem cjp_is {n : Nat} {e : List Int} (hg : Gn n e) (h : CjP e) : IsCj e := by
  obtain ⟨h1, h2, h3⟩ := h
  have hm : e.length / 2 < e.length := by omega
  have sp : e = e.take (e.length / 2) ++ gt e (e.length / 2 : Nat) :: e.drop (e.length / 2 + 1) := by
    have g := gt_of hm
    obtain ⟨hlt, ge⟩ := List.getElem?_eq_some_iff.mp g
    rw [← ge, List.getElem_cons_drop, List.take_append_drop]
  refine ⟨e.take (e.length / 2), gt e (e.length / 2 : Nat), ?_, ?_⟩
  · have : gt e (e.length / 2 : Nat) ∈ e := List.mem_of_getElem? (gt_of hm)
    have := (hg _ this).1
    omega
  · unfold cj
    rw [← h3]
    exact sp
theorem is_cjp {e : List Int} (h : IsCj e) : CjP e := by
  obtain ⟨g, x, hx, rfl⟩ := h
  have hl := cj_len g x
  have hm : (cj g x).length / 2 = g.length := by omega
  unfold CjP
  rw [hm]
  refine ⟨by omega, ?_, ?_⟩
  · rw [gt_nat, List.getD_eq_getElem?_getD]
    unfold cj
    simp
    omega
  · unfold cj
    simp
end K15
namespace K15
open PySem J
/-! ### is it a row of images: the program's answer, the law's answer -/
def Due (R : List (List Int)) : Prop := (∀ e ∈ R, CjP e) ∧ red R.flatten = pos R.length
instance (R : List (List Int)) : Decidable (Due R) := by unfold Due; infer_instance
def Sz (R : List (List Int)) : Prop := R.length ≤ 8 ∧ All (Le 1000000) R
theorem Sz.flat {R : List (List Int)} (h : Sz R) : R.flatten.length ≤ 8000000 := by
  have : ∀ (R : List (List Int)), All (Le 1000000) R → R.flatten.length ≤ R.length * 1000000 := fun R => by
    induction R with
    | nil => intro _; simp
    | cons e R ih =>
      intro h
      have h1 := h e List.mem_cons_self
      have h2 := ih fun x hx => h x (List.mem_cons_of_mem _ hx)
      unfold Le at h1
      simp only [List.flatten_cons, List.length_append, List.length_cons]
      omega
  have := this R h.2
  have := h.1
  omega
theorem due_loop (R : List (List Int)) (hz : R.flatten.length ≤ 8000000) (hs : All (Le 1000000) R) : ∀ (rest pre : List (List Int)), pre ++ rest = R →
    ((∀ e ∈ rest, CjP e) → runFor (gNm 2) l__law_is_due_1 [2] (tl rest) [.bw (tl R), .ow (li pre.flatten), .no, .no] = some (.nx [.bw (tl R), .ow (li R.flatten), .no, .no])) ∧
    ((¬ ∀ e ∈ rest, CjP e) → ∃ a b c, runFor (gNm 2) l__law_is_due_1 [2] (tl rest) [.bw (tl R), .ow (li pre.flatten), .no, .no] = some (.rt (.fz (.bool false)) [.bw (tl R), a, b, c]))
  | [], pre, q => by
    rw [List.append_nil] at q
    subst q
    exact ⟨fun _ => rfl, fun z => absurd (fun e he => by cases he) z⟩
  | e :: rest, pre, q => by
    have hm : e ∈ R := by rw [← q]; simp
    have hl := hs e hm
    unfold Le at hl
    have ic := isc_ok e (by omega)
    have ih := due_loop R hz hs rest (pre ++ [e]) (by rw [List.append_assoc]; exact q)
    have hl' : pre.flatten.length + e.length ≤ 16777216 := by
      rw [← q, List.flatten_append, List.flatten_cons, List.length_append, List.length_append] at hz
      omega
    by_cases c : CjP e
    · have t : turn (gNm 2) l__law_is_due_1 [2] (.tuple (li e)) [.bw (tl R), .ow (li pre.flatten), .no, .no] = some (.go [.bw (tl R), .ow (li (pre ++ [e]).flatten), .no, .no]) := by
        rw [List.flatten_append]
        generalize pre.flatten = z at *
        simp (disch := omega) [turn, l__law_is_due_1, ic, c]
      rw [tl_cons, for_go t]
      exact ⟨fun h => ih.1 fun x hx => h x (List.mem_cons_of_mem _ hx), fun h => ih.2 fun z => h fun x hx => by
        rcases List.mem_cons.mp hx with rfl | hx
        · exact c
        · exact z x hx⟩
    · have t : turn (gNm 2) l__law_is_due_1 [2] (.tuple (li e)) [.bw (tl R), .ow (li pre.flatten), .no, .no] = some (.end (.rt (.fz (.bool false)) [.bw (tl R), .ow (li pre.flatten), .fz (.tuple (li e)), .no])) := by
        generalize pre.flatten = z at *
        simp (disch := omega) [turn, l__law_is_due_1, ic, c]
      rw [tl_cons, for_end t]
      exact ⟨fun h => absurd (h e List.mem_cons_self) c, fun _ => ⟨_, _, _, rfl⟩⟩
theorem pos_lc (R : List (List Int)) (W V : Sl) : runLc (gNm 3) tYes l__law_is_due_2 [3] (rngD 0 R.length) [.bw (tl R), W, V, .no] = some (li (pos R.length), [.bw (tl R), W, V, .no]) := by
  have hc := lc_rng (g := gNm 3) (t := tYes) (a := l__law_is_due_2) (er := [3]) (env := [.bw (tl R), W, V, .no]) (f := fun k => .int (k + 1)) R.length 0 fun k _ _ => by simp [turnL, l__law_is_due_2]
  rw [hc]
  congr 2
  unfold pos li
  rw [List.map_map]
  apply List.map_congr_left
  intro k _
  simp
theorem rngD_pos (n : Nat) : rngD 1 n = li (pos n) := by
  unfold rngD pos li
  rw [List.map_map]
  apply List.map_congr_left
  intro k _
  show PyData.int (1 + (k : Int)) = PyData.int ((k : Int) + 1)
  rw [Int.add_comm]
theorem is_due_ok (R : List (List Int)) (hs : Sz R) : f__law_is_due [.list (tl R)] = some (.fz (.bool (decide (Due R))), []) := by
  have L := due_loop R hs.flat hs.2 R [] rfl
  have hf := hs.flat
  have rd := reduced_ok R.flatten (by omega) _ (.inl rfl)
  have h8 := hs.1
  by_cases c : ∀ e ∈ R, CjP e
  · have l1 := L.1 c
    simp only [List.flatten_nil, li_nil] at l1
    have pl := pos_lc R
    have hl : R.length ≤ limit := by unfold limit; omega
    have e : decide (Due R) = decide (red R.flatten = pos R.length) := decide_eq_decide.mpr ⟨fun z => z.2, fun z => ⟨c, z⟩⟩
    rw [e]
    simp (disch := omega) [f__law_is_due, q_fn, b__law_is_due, l1, rd, pl, hl]
  · obtain ⟨x, y, z, l2⟩ := L.2 c
    simp only [List.flatten_nil, li_nil] at l2
    have e : decide (Due R) = false := decide_eq_false fun h => c h.1
    rw [e]
    simp (disch := omega) [f__law_is_due, q_fn, b__law_is_due, l2]
theorem row_loop (R : List (List Int)) (n : Int) (hs : All (Le 1000000) R) : ∀ (rest pre : List (List Int)), pre ++ rest = R →
    ((∀ e ∈ rest, CjP e) → runFor (gNm 2) l_is_braid_row_1 [2] (tl rest) [.fz (.int n), .fz (.tuple (tl R)), .no] = some (.nx [.fz (.int n), .fz (.tuple (tl R)), .no])) ∧
    ((¬ ∀ e ∈ rest, CjP e) → ∃ c, runFor (gNm 2) l_is_braid_row_1 [2] (tl rest) [.fz (.int n), .fz (.tuple (tl R)), .no] = some (.rt (.fz (.bool false)) [.fz (.int n), .fz (.tuple (tl R)), c]))
  | [], pre, q => ⟨fun _ => rfl, fun z => absurd (fun e he => by cases he) z⟩
  | e :: rest, pre, q => by
    have hm : e ∈ R := by rw [← q]; simp
    have hl := hs e hm
    unfold Le at hl
    obtain ⟨d, ic, hd⟩ := cp_ok e (by omega)
    have ih := row_loop R n hs rest (pre ++ [e]) (by rw [List.append_assoc]; exact q)
    by_cases c : CjP e
    · have dn : d ≠ .none := fun z => hd.mp z c
      have t : turn (gNm 2) l_is_braid_row_1 [2] (.tuple (li e)) [.fz (.int n), .fz (.tuple (tl R)), .no] = some (.go [.fz (.int n), .fz (.tuple (tl R)), .no]) := by
        cases d <;> first | exact absurd rfl dn | simp (disch := omega) [turn, l_is_braid_row_1, ic]
      rw [tl_cons, for_go t]
      exact ⟨fun h => ih.1 fun x hx => h x (List.mem_cons_of_mem _ hx), fun h => ih.2 fun z => h fun x hx => by
        rcases List.mem_cons.mp hx with rfl | hx
        · exact c
        · exact z x hx⟩
    · have dn := hd.mpr c
      subst dn
      have t : turn (gNm 2) l_is_braid_row_1 [2] (.tuple (li e)) [.fz (.int n), .fz (.tuple (tl R)), .no] = some (.end (.rt (.fz (.bool false)) [.fz (.int n), .fz (.tuple (tl R)), .fz (.tuple (li e))])) := by
        simp (disch := omega) [turn, l_is_braid_row_1, ic]
      rw [tl_cons, for_end t]
      exact ⟨fun h => absurd (h e List.mem_cons_self) c, fun _ => ⟨_, rfl⟩⟩
theorem is_row_ok (R : List (List Int)) (hs : Sz R) : f_is_braid_row [.int R.length, .tuple (tl R)] = some (.fz (.bool (decide (Due R))), []) := by
  have L := row_loop R R.length hs.2 R [] rfl
  have hf := hs.flat
  have pr : f_free_product [.tuple (tl R)] = some (.fz (.tuple (li (red R.flatten))), []) := product_ok R (by omega)
  have h8 := hs.1
  by_cases c : ∀ e ∈ R, CjP e
  · have l1 := L.1 c
    have e : decide (Due R) = decide (red R.flatten = pos R.length) := decide_eq_decide.mpr ⟨fun z => z.2, fun z => ⟨c, z⟩⟩
    rw [e]
    have hl : R.length < limit := by unfold limit; omega
    have hl2 : (pos R.length).length ≤ limit := by rw [pos_len]; omega
    have rp := rngD_pos R.length
    simp (disch := omega) [f_is_braid_row, q_fn, b_is_braid_row, l1, pr, hl, hl2, rp]
  · obtain ⟨x, l2⟩ := L.2 c
    have e : decide (Due R) = false := decide_eq_false fun h => c h.1
    rw [e]
    simp (disch := omega) [f_is_braid_row, q_fn, b_is_braid_row, l2]
end K15
namespace K15
open PySem J
/-! ### the letter that shortens the most -/
/-- what is known of the best letter once the places below k are looked at -/
def Best (R : List (List Int)) (k : Int) (bl bg : Int) : Prop := 0 ≤ bg ∧ ((bl = 0 ∧ bg = 0 ∧ ∀ i : Nat, (i : Int) + 1 < k → NG (R.getD i []) (R.getD (i + 1) [])) ∨ Sh R bl)
theorem gR_nat (R : List (List Int)) (i : Nat) : gR R (i : Int) = R.getD i [] := by unfold gR; simp
theorem best_turn (R : List (List Int)) (hs : All (Le 1000000) R) (i : Nat) (h1 : i + 1 < R.length) (bl bg : Int) (hb : Best R ((i : Int) + 1) bl bg) :
    ∃ bl' bg', turn (gNm 3) l__shortening_letter_1 [3, 4, 5, 6] (.int ((i : Int) + 1)) [.fz (.tuple (tl R)), .fz (.int bl), .fz (.int bg), .no, .no, .no, .no] = some (.go [.fz (.tuple (tl R)), .fz (.int bl'), .fz (.int bg'), .no, .no, .no, .no]) ∧ Best R ((i : Int) + 2) bl' bg' := by
  have ha := gR_le hs (i : Int)
  have hb2 := gR_le hs ((i : Int) + 1)
  have ov := over_ok (gR R i) (gR R ((i : Int) + 1)) (by omega)
  have un := under_ok (gR R i) (gR R ((i : Int) + 1)) (by omega)
  have e1 : (i : Int) + 1 - 1 = (i : Int) := by omega
  have ga : gR R (i : Int) = R.getD i [] := gR_nat R i
  have gb : gR R ((i : Int) + 1) = R.getD (i + 1) [] := gR_nat R (i + 1)
  have sp := sh_pos h1
  have sn := sh_neg h1
  rw [← ga, ← gb] at sp sn
  obtain ⟨b0, bc⟩ := hb
  obtain ⟨O, hO⟩ : ∃ O : Nat, (red (gR R i ++ gR R ((i : Int) + 1) ++ inv (gR R i))).length = O := ⟨_, rfl⟩
  obtain ⟨U, hU⟩ : ∃ U : Nat, (red (inv (gR R ((i : Int) + 1)) ++ gR R i ++ gR R ((i : Int) + 1))).length = U := ⟨_, rfl⟩
  rw [hO] at sp
  rw [hU] at sn
  have ng : ¬ O < (gR R ((i : Int) + 1)).length → ¬ U < (gR R (i : Int)).length → NG (R.getD i []) (R.getD (i + 1) []) := fun z1 z2 => by
    rw [← ga, ← gb]
    exact ⟨by rw [hO]; omega, by rw [hU]; omega⟩
  -- the two tests
  by_cases c1 : bg < ((gR R ((i : Int) + 1)).length : Int) - (O : Int)
  · by_cases c2 : ((gR R ((i : Int) + 1)).length : Int) - (O : Int) < ((gR R (i : Int)).length : Int) - (U : Int)
    · refine ⟨-((i : Int) + 1), ((gR R (i : Int)).length : Int) - (U : Int), ?_, by omega, .inr (sn (by omega))⟩
      simp (disch := omega) [turn, l__shortening_letter_1, e1, ov, un, hO, hU, c1, c2, - List.append_assoc]
    · refine ⟨(i : Int) + 1, ((gR R ((i : Int) + 1)).length : Int) - (O : Int), ?_, by omega, .inr (sp (by omega))⟩
      simp (disch := omega) [turn, l__shortening_letter_1, e1, ov, un, hO, hU, c1, c2, - List.append_assoc]
  · by_cases c2 : bg < ((gR R (i : Int)).length : Int) - (U : Int)
    · refine ⟨-((i : Int) + 1), ((gR R (i : Int)).length : Int) - (U : Int), ?_, by omega, .inr (sn (by omega))⟩
      simp (disch := omega) [turn, l__shortening_letter_1, e1, ov, un, hO, hU, c1, c2, - List.append_assoc]
    · refine ⟨bl, bg, ?_, b0, ?_⟩
      · simp (disch := omega) [turn, l__shortening_letter_1, e1, ov, un, hO, hU, c1, c2, - List.append_assoc]
      · rcases bc with ⟨x1, x2, x3⟩ | x
        · refine .inl ⟨x1, x2, fun j hj => ?_⟩
          by_cases q : j = i
          · subst q
            exact ng (by omega) (by omega)
          · exact x3 j (by omega)
        · exact .inr x
theorem short_ok (R : List (List Int)) (hs : Sz R) (h0 : 1 ≤ R.length) : ∃ l : Int, f__shortening_letter [.tuple (tl R)] = some (.fz (.int l), []) ∧ ((l = 0 ∧ ∀ i, i + 1 < R.length → NG (R.getD i []) (R.getD (i + 1) [])) ∨ (l ≠ 0 ∧ Sh R l)) := by
  have h8 := hs.1
  obtain ⟨E, q1, bl, bg, q2, q3⟩ := for_rng (g := gNm 3) (body := l__shortening_letter_1) (er := [3, 4, 5, 6]) (fun k E => ∃ bl bg, E = [.fz (.tuple (tl R)), .fz (.int bl), .fz (.int bg), .no, .no, .no, .no] ∧ Best R k bl bg) (R.length - 1) 1 [.fz (.tuple (tl R)), .fz (.int 0), .fz (.int 0), .no, .no, .no, .no]
    ⟨0, 0, rfl, by omega, .inl ⟨rfl, rfl, fun i hi => by omega⟩⟩ (fun k E a b ⟨bl, bg, hE, hB⟩ => by
      subst hE
      obtain ⟨i, rfl⟩ : ∃ i : Nat, k = (i : Int) + 1 := ⟨(k - 1).toNat, by omega⟩
      obtain ⟨bl', bg', t1, t2⟩ := best_turn R hs.2 i (by omega) bl bg hB
      exact ⟨_, t1, bl', bg', rfl, by rw [show (i : Int) + 1 + 1 = (i : Int) + 2 by omega]; exact t2⟩)
  subst q2
  have e1 : ((R.length : Int) - 1).toNat = R.length - 1 := by omega
  refine ⟨bl, ?_, ?_⟩
  · simp (disch := omega) [f__shortening_letter, q_fn, b__shortening_letter, e1, q1]
  · rcases q3.2 with ⟨x1, x2, x3⟩ | x
    · exact .inl ⟨x1, fun i hi => x3 i (by omega)⟩
    · exact .inr ⟨x.1.1, x⟩
end K15
namespace K15
open PySem J
/-! ### the word that is found -/
def Pl (R : List (List Int)) (l : Int) : Prop := (l = 0 ∧ ∀ i, i + 1 < R.length → NG (R.getD i []) (R.getD (i + 1) [])) ∨ (l ≠ 0 ∧ Sh R l)
theorem tot_le {R : List (List Int)} {C : Nat} (h : tot R ≤ C) : All (Le C) R := fun e he => by
  have : ∀ (R : List (List Int)) (e : List Int), e ∈ R → e.length ≤ R.flatten.length := fun R e he => by
    induction R with
    | nil => cases he
    | cons a R ih =>
      rw [List.flatten_cons, List.length_append]
      rcases List.mem_cons.mp he with rfl | he
      · omega
      · have := ih he; omega
  exact Nat.le_trans (this R e he) h
theorem tot_sz {R : List (List Int)} (h : tot R ≤ 300000) (h8 : R.length ≤ 8) : Sz R := ⟨h8, tot_le (Nat.le_trans h (by decide))⟩
theorem one_fits {n : Nat} {l : Int} (h : l ≠ 0 ∧ l.natAbs < n) : Fits n [l] := fun x hx => by
  rw [List.mem_singleton] at hx
  rw [hx]; exact h
theorem word_loop (n : Nat) (h0 : 1 ≤ n) (h8 : n ≤ 8) (W : Sl) : ∀ (fuel : Nat) (R : List (List Int)) (ls : List Int) (l : Int), tot R < fuel → R.length = n → IsRow R → All Red R → tot R ≤ 300000 → ls.length + tot R ≤ 2000000 → Pl R l →
    ∃ ws, runWhile t_braid_of_1 l_braid_of_1 [] fuel [.fz (.int n), W, .fz (.tuple (tl R)), .ow (li ls), .fz (.int l)] = some (.nx [.fz (.int n), W, .fz (.tuple (tl (start n))), .ow (li (ls ++ ws)), .fz (.int 0)]) ∧ Fits n ws ∧ rows ws R = start n ∧ ws.length ≤ tot R ∧ (Rd ws ∧ (ws = [] ∨ ∃ t, ws = l :: t)) ∧ ∀ u v, ws = u ++ v → tot (rows u R) ≤ tot R
  | 0, R, ls, l, hf, _, _, _, _, _, _ => by omega
  | fuel + 1, R, ls, l, hf, hn, hR, hr, ht, hls, hp => by
    rcases hp with ⟨rfl, ng⟩ | ⟨l0, sh⟩
    · have e := start_of hR hr ng
      rw [hn] at e
      have fe : Fits n [] := fun x hx => absurd hx (by simp)
      refine ⟨[], ?_, fe, e, Nat.zero_le _, ⟨trivial, .inl rfl⟩, fun u v z => ?_⟩
      case refine_2 =>
        have : u = [] := by
          cases u with
          | nil => rfl
          | cons a u => cases z
        rw [this]
        exact Nat.le_refl _
      rw [List.append_nil, e]
      exact while_end (by simp [turnW, t_braid_of_1])
    · obtain ⟨hx, hlt⟩ := sh
      have f1 : Fits R.length [l] := one_fits hx
      have sm : Small R [l] Big := (small_any [l] R 300000 f1 (tot_le ht)).up (by show 300000 * 3 ^ 1 ≤ 1000000; decide)
      have ac := act_ok R [l] f1 sm _ _ (.inr rfl) (.inl rfl)
      have er : rows [l] R = mv1 R l := rfl
      rw [er] at ac
      have hl := mv1_len R l hx
      have hR' := isRow_mv hx hR
      have hr' : All Red (mv1 R l) := all_mv1 (fun a b _ _ => red_is _) (fun a b _ _ => red_is _) hx hr
      obtain ⟨l2, s1, s2⟩ := short_ok (mv1 R l) (tot_sz (by omega) (by omega)) (by omega)
      obtain ⟨ws, w1, w2, w3, w4, ⟨w5, w6⟩, w7⟩ := word_loop n h0 h8 W fuel (mv1 R l) (ls ++ [l]) l2 (by omega) (by omega) hR' hr' (by omega) (by simp; omega) s2
      have rdw : Rd (l :: ws) := by
        rcases w6 with rfl | ⟨t, rfl⟩
        · trivial
        · refine ⟨fun e => ?_, w5⟩
          subst e
          rcases s2 with ⟨z, _⟩ | ⟨_, z⟩
          · omega
          · have := z.2
            rw [mv1_back R l hx hr] at this
            omega
      refine ⟨l :: ws, ?_, ?_, by rw [rows_cons]; exact w3, by simp; omega, ⟨rdw, .inr ⟨ws, rfl⟩⟩, fun u v z => ?_⟩
      case refine_3 =>
        cases u with
        | nil => exact Nat.le_refl _
        | cons a u =>
          cases z
          rw [rows_cons]
          have := w7 u v rfl
          omega
      · have hz : ls.length < limit := by unfold limit; omega
        rw [while_go (e := [.fz (.int n), W, .fz (.tuple (tl (mv1 R l))), .ow (li (ls ++ [l])), .fz (.int l2)])]
        · rw [w1, List.append_assoc]; rfl
        · have li1 : li [l] = [.int l] := rfl
          rw [li1] at ac
          simp (disch := omega) [turnW, t_braid_of_1, l_braid_of_1, l0, ac, s1, hz]
      · intro x hx'
        rcases List.mem_cons.mp hx' with rfl | h
        · rw [← hn]; exact hx
        · exact w2 x h
theorem inverse_word_ok (l : List Int) (h : l.length < 4000000) : f_inverse_word [.list (li l)] = some (.ow (li (inv l)), []) := by
  have hc : ∀ W, runLc (gNm 1) tYes l_inverse_word_1 [1] (li l.reverse) [W, .no] = some (li (inv l), [W, .no]) := fun W => by
    have := lc_li (g := gNm 1) (t := tYes) (a := l_inverse_word_1) (er := [1]) (env := [W, .no]) (f := fun x => PyData.int (-x)) (l := l.reverse) fun x _ => by simp [turnL, l_inverse_word_1]
    rw [this, li_map]
    rfl
  have hl : l.length ≤ limit := by unfold limit; omega
  simp [f_inverse_word, q_fn, b_inverse_word, hc, hl]
theorem braid_no (R : List (List Int)) (hs : Sz R) (h : ¬ Due R) : f_braid_of [.int R.length, .tuple (tl R)] = some (.ex ⟨"NotBraidRow", []⟩) := by
  have ir := is_row_ok R hs
  rw [decide_eq_false h] at ir
  simp [f_braid_of, q_fnX, b_braid_of, ir]
theorem due_row {R : List (List Int)} {n : Nat} (hg : All (Gn n) R) (h : Due R) : IsRow R := ⟨fun e he => cjp_is (hg e he) (h.1 e he), h.2⟩
theorem braid_yes (R : List (List Int)) (h0 : 1 ≤ R.length) (h8 : R.length ≤ 8) (ht : tot R ≤ 300000) (hg : All (Gn R.length) R) (hr : All Red R) (h : Due R) :
    ∃ w, f_braid_of [.int R.length, .tuple (tl R)] = some (.ok (.ow (li w))) ∧ Fits R.length w ∧ rows w (start R.length) = R ∧ w.length ≤ 300000 ∧ Rd w ∧ Small (start R.length) w Big := by
  have hs := tot_sz ht h8
  have ir := is_row_ok R hs
  rw [decide_eq_true h] at ir
  obtain ⟨l, s1, s2⟩ := short_ok R hs h0
  obtain ⟨ws, w1, w2, w3, w4, ⟨w5, w6⟩, w7⟩ := word_loop R.length h0 h8 (.fz (.tuple (tl R))) w_braid_of_1 R [] l (by unfold w_braid_of_1; omega) rfl (due_row hg h) hr ht (by simp; omega) s2
  have iw := inverse_word_ok ws (by omega)
  have fi : Fits R.length (inv ws) := fun x hx => by
    unfold inv at hx
    obtain ⟨y, hy, rfl⟩ := List.mem_map.mp hx
    have := w2 y (List.mem_reverse.mp hy)
    omega
  refine ⟨inv ws, ?_, fi, ?_, by rw [inv_len]; omega, rd_inv w5, fun p q z => ?_⟩
  · rw [List.nil_append] at w1
    simp only [li_nil] at w1
    simp [f_braid_of, q_fnX, b_braid_of, ir, s1, w1, iw]
  · have := rows_back ws R w2 hr
    rw [w3] at this
    exact this
  · have zi : ws = inv q ++ inv p := by
      have := congrArg inv z
      rw [inv_inv, inv_app] at this
      exact this
    have fq : Fits R.length (inv q) := fun x hx => w2 x (by rw [zi]; exact List.mem_append_left _ hx)
    have fp : Fits R.length (inv p) := fun x hx => w2 x (by rw [zi]; exact List.mem_append_right _ hx)
    have lq := rows_len (inv q) R fq
    have e : rows p (start R.length) = rows (inv q) R := by
      have := rows_back (inv p) (rows (inv q) R) (by rw [lq]; exact fp) (red_rows (inv q) fq hr)
      have z2 : rows (inv p) (rows (inv q) R) = start R.length := by rw [← rows_app, ← zi, w3]
      rw [z2, inv_inv] at this
      exact this
    rw [e]
    have := w7 (inv q) (inv p) zi
    exact tot_le (Nat.le_trans (Nat.le_trans this ht) (by decide))
end K15
namespace K15
open PySem J
/-! ### a row is judged rightly -/
/-- rows that the law asks about -/
def Nice (R : List (List Int)) : Prop := 1 ≤ R.length ∧ R.length ≤ 8 ∧ tot R ≤ 300000 ∧ All (Gn R.length) R ∧ All Red R
theorem asked_no (R : List (List Int)) (h : Nice R) (hd : ¬ Due R) : f__law_asked [.list (tl R)] = some (.fz (.tuple [.str ("refused" : PySem.Str), .bool true]), []) := by
  have b := braid_no R (tot_sz h.2.2.1 h.2.1) hd
  have hl : R.length ≤ limit := by have := h.2.1; unfold limit; omega
  simp [f__law_asked, q_fn, b__law_asked, l__law_asked_1, s__law_asked_1, b, hl]
theorem asked_yes (R : List (List Int)) (h : Nice R) (hd : Due R) : ∃ w, f__law_asked [.list (tl R)] = some (.fz (.tuple [.str ("word" : PySem.Str), .list (li w)]), []) ∧ Fits R.length w ∧ rows w (start R.length) = R ∧ w.length ≤ 300000 ∧ Rd w ∧ Small (start R.length) w Big := by
  obtain ⟨w, b, hw⟩ := braid_yes R h.1 h.2.1 h.2.2.1 h.2.2.2.1 h.2.2.2.2 hd
  have hl : R.length ≤ limit := by have := h.2.1; unfold limit; omega
  refine ⟨w, ?_, hw⟩
  simp [f__law_asked, q_fn, b__law_asked, l__law_asked_1, s__law_asked_1, b, hl]
theorem leads_loop1 (R : List (List Int)) (W : Sl) (w : List Int) (hf : Fits R.length w) : runFor (gNm 2) l__law_leads_1 [2] (li w) [W, .bw (tl R), .no, .no] = some (.nx [W, .bw (tl R), .no, .no]) := by
  induction w with
  | nil => rfl
  | cons x w ih =>
    have hx := hf x List.mem_cons_self
    have h1 : (x = 0) = False := eq_false hx.1
    have h2 : (((R.length : Nat) : Int) ≤ (x.natAbs : Int)) = False := eq_false (by omega)
    have t : turn (gNm 2) l__law_leads_1 [2] (.int x) [W, .bw (tl R), .no, .no] = some (.go [W, .bw (tl R), .no, .no]) := by
      simp (disch := omega) [turn, l__law_leads_1, h1, h2]
    have e : li (x :: w) = .int x :: li w := rfl
    rw [e, for_go t]
    exact ih fun y hy => hf y (List.mem_cons_of_mem _ hy)
theorem leads_ok (R : List (List Int)) (h : Nice R) (w : List Int) (hf : Fits R.length w) (hw : rows w (start R.length) = R) (hl : w.length ≤ 300000) (rw_ : Rd w) (sm : Small (start R.length) w Big) : f__law_leads [.list (li w), .list (tl R)] = some (.fz (.bool true), []) := by
  have l1 := leads_loop1 R (.bw (li w)) w hf
  have h8 := h.2.1
  have st := start_ok R.length (by omega) (by omega)
  have en : ((R.length : Nat) : Int).toNat = R.length := by omega
  rw [en] at st
  have rd := reduced_ok w (by omega) _ (.inl rfl)
  rw [red_of_rd rw_] at rd
  have lp := run_loop (gNm 2) l__law_leads_2 [2] (fun S => [.bw (li w), .bw (tl R), .no, .fz (.list (tl S))]) (fun S x hx hS => by
    have mv := moved_ok S x hx hS
    simp [turn, l__law_leads_2, mv]) (start R.length) w (by rw [start_len]; exact hf) sm
  rw [hw] at lp
  simp [f__law_leads, q_fn, b__law_leads, l1, st, rd, lp]
theorem bq1 : beqD (.bool true) (.bool true) = true := by simp [beqD]
theorem bq2 : beqD (.bool false) (.bool false) = true := by simp [beqD]
theorem bq3 (s : PySem.Str) : beqD (.str s) (.str s) = true := by simp [beqD]
theorem sq1 : shp 10 (.str (PySem.Str.ofString "word")) = true := by decide +kernel
theorem sq2 : shp 10 (.str (PySem.Str.ofString "refused")) = true := by decide +kernel
theorem holds_ok (R : List (List Int)) (h : Nice R) : f__law_row_holds [.list (tl R)] = some (.fz (.bool true), []) := by
  have hs := tot_sz h.2.2.1 h.2.1
  have d1 := is_due_ok R hs
  have d2 := is_row_ok R hs
  have hl : R.length ≤ limit := by have := h.2.1; unfold limit; omega
  by_cases c : Due R
  · obtain ⟨w, a, w1, w2, w3, w4, w5⟩ := asked_yes R h c
    have le := leads_ok R h w w1 w2 w3 w4 w5
    rw [decide_eq_true c] at d1 d2
    simp [f__law_row_holds, q_fn, b__law_row_holds, d1, d2, a, le, hl, bq1, bq3, sq1, sq2]
  · have a := asked_no R h c
    rw [decide_eq_false c] at d1 d2
    simp [f__law_row_holds, q_fn, b__law_row_holds, d1, d2, a, hl, bq2, bq3, sq1, sq2]
end K15
namespace K15
open PySem J
/-! ### the law's rows -/
theorem lc_tl {g : G} {t : M Bool} {a : M RV} {er : List Nat} {env : J.Env} {f : List Int → D} : ∀ {R : List (List Int)}, (∀ e ∈ R, turnL g t a er (.tuple (li e)) env = some (some (f e), env)) → runLc g t a er (tl R) env = some (R.map f, env)
  | [], _ => rfl
  | e :: R, h => by
    rw [tl_cons, lc_turn, h e List.mem_cons_self]
    show kRl4 (f e) (runLc g t a er (tl R) env) = _
    rw [lc_tl fun x hx => h x (List.mem_cons_of_mem _ hx)]
    rfl
theorem letter_ok {n : Int} (bs : List D) (m : Int) (hb : Bag n bs) (hn : n < 900000000) (h0 : 0 < m) (h1 : m < 1000) : ∃ x bs', f__law_letter [.list bs, .int m] = some (.fz (.int x), [bs']) ∧ Bag (n + 2) bs' ∧ x ≠ 0 ∧ (x.natAbs : Int) ≤ m := by
  obtain ⟨v, b1, t1, g1, v0, v1⟩ := take_ok bs m hb (by omega) h0 (by omega)
  obtain ⟨u, b2, t2, g2, u0, u1⟩ := take_ok b1 2 g1 (by omega) (by decide) (by decide)
  have g2' : Bag (n + 2) b2 := by rw [show n + 2 = n + 1 + 1 by omega]; exact g2
  by_cases c : u = 1
  · have e : (u = 1) = True := eq_true c
    exact ⟨-(1 + v), b2, by simp (disch := omega) [f__law_letter, q_fn, b__law_letter, t1, t2, e], g2', by omega, by omega⟩
  · have e : (u = 1) = False := eq_false c
    exact ⟨1 + v, b2, by simp (disch := omega) [f__law_letter, q_fn, b__law_letter, t1, t2, e], g2', by omega, by omega⟩
theorem conjd_ok (e by' : List Int) (h : e.length + 2 * by'.length < 4000000) : f__law_conjugated [.tuple (li e), .tuple (li by')] = some (.fz (.tuple (li (red (by' ++ e ++ inv by')))), []) := by
  have il := inv_len by'
  have ag := against_ok by' (by omega) _ (.inr rfl)
  have rd := reduced_ok (by' ++ e ++ inv by') (by simp only [List.length_append]; omega) _ (.inr rfl)
  simp (disch := (try simp only [List.length_append]); omega) [f__law_conjugated, q_fn, b__law_conjugated, ag, rd, - List.append_assoc]
theorem put_ok (R : List (List Int)) (at_ : Int) (e : List Int) (h8 : R.length ≤ 8) (h0 : 0 ≤ at_) (h1 : at_ < R.length) (h : e.length < 4000000) : f__law_put [.list (tl R), .int at_, .tuple (li e)] = some (.ow (tl (R.set at_.toNat (red e))), []) := by
  have rd := reduced_ok e (by omega) _ (.inr rfl)
  simp (disch := omega) [f__law_put, q_fn, b__law_put, rd]
/-- rows of n reduced words in n letters, no word longer than C -/
structure Nr (n C : Nat) (R : List (List Int)) : Prop where
  len : R.length = n
  gn : All (Gn n) R
  rd : All Red R
  le : All (Le C) R
theorem Nr.up {n C C' : Nat} {R : List (List Int)} (h : Nr n C R) (e : C ≤ C') : Nr n C' R := ⟨h.len, h.gn, h.rd, fun x hx => Nat.le_trans (h.le x hx) e⟩
theorem flat_le (C : Nat) : ∀ (R : List (List Int)), All (Le C) R → R.flatten.length ≤ R.length * C
  | [], _ => by simp
  | e :: R, h => by
    have h1 := h e List.mem_cons_self
    have h2 := flat_le C R fun x hx => h x (List.mem_cons_of_mem _ hx)
    unfold Le at h1
    simp only [List.flatten_cons, List.length_append, List.length_cons]
    rw [Nat.add_mul]
    omega
theorem Nr.nice {n C : Nat} {R : List (List Int)} (h : Nr n C R) (h0 : 1 ≤ n) (h8 : n ≤ 8) (hC : C ≤ 30000) : Nice R := by
  refine ⟨by rw [h.len]; exact h0, by rw [h.len]; exact h8, ?_, by rw [h.len]; exact h.gn, h.rd⟩
  have := flat_le C R h.le
  rw [h.len] at this
  have : n * C ≤ 8 * 30000 := Nat.mul_le_mul h8 hC
  unfold tot
  omega
theorem start_nr (n : Nat) : Nr n 1 (start n) := ⟨start_len n, start_gn n, start_red n, fun e he => by
  unfold start at he
  obtain ⟨k, _, rfl⟩ := List.mem_map.mp he
  exact Nat.le_refl 1⟩
/-- the images -/
def RowR (R : List (List Int)) (r : Rt) : Prop := r = .ow (tl R) ∨ r = .fz (.list (tl R))
theorem sum_lens (R : List (List Int)) : (R.map fun e => (e.length : Int)).sum = (tot R : Int) := by
  unfold tot
  induction R with
  | nil => rfl
  | cons e R ih =>
    rw [List.map_cons, List.sum_cons, ih, List.flatten_cons, List.length_append]
    omega
theorem img_turn {m : Int} (n lim : Nat) (h2 : 2 ≤ n) (h8 : n ≤ 8) (hl : lim ≤ 1000) (bs : List D) (hb : Bag m bs) (hm : m < 100000) (R : List (List Int)) (hR : Nr n 1000 R) (ht : tot R ≤ lim) (V : Sl) (hV : V = .ow (tl R) ∨ V = .fz (.list (tl R))) (z : Sl) (k : Int) :
    ∃ bs' R' V', turn (gNm 5) l__law_images_1 [5, 6, 7] (.int k) [.ow bs, .fz (.int n), .fz (.int lim), V, z, .no, .no, .no] = some (.go [.ow bs', .fz (.int n), .fz (.int lim), V', z, .no, .no, .no]) ∧ Bag (m + 2) bs' ∧ Nr n 1000 R' ∧ tot R' ≤ lim ∧ (V' = .ow (tl R') ∨ V' = .fz (.list (tl R'))) := by
  obtain ⟨x, b1, t1, g1, x0, x1⟩ := letter_ok bs ((n : Int) - 1) hb (by omega) (by omega) (by omega)
  have hx : x ≠ 0 ∧ x.natAbs < R.length := ⟨x0, by rw [hR.len]; omega⟩
  have mv := moved_ok R x hx (fun e he => Nat.le_trans (hR.le e he) (by decide))
  have ln := mv1_len R x hx
  have lc := fun (a b c : Sl) => lc_tl (g := gNm 7) (t := tYes) (a := l__law_images_2) (er := [7]) (env := [.ow b1, .fz (.int n), .fz (.int lim), a, b, c, .fz (.list (tl (mv1 R x))), .no]) (f := fun e => .int e.length) (R := mv1 R x) fun e he => by simp [turnL, l__law_images_2]
  have e2 : ((mv1 R x).map fun e => PyData.int (e.length : Int)) = li ((mv1 R x).map fun e => (e.length : Int)) := by simp [li, Function.comp_def]
  have sl := sum_lens (mv1 R x)
  have hl2 : (mv1 R x).length ≤ limit := by rw [ln, hR.len]; unfold limit; omega
  by_cases c : tot (mv1 R x) ≤ lim
  · have nr : Nr n 1000 (mv1 R x) := ⟨by rw [ln, hR.len], by
      have := gn_rows [x] (R := R) (n := n) (one_fits hx) hR.gn
      exact this, all_mv1 (fun a b _ _ => red_is _) (fun a b _ _ => red_is _) hx hR.rd, tot_le (Nat.le_trans c hl)⟩
    have c' : (((tot (mv1 R x) : Nat) : Int) ≤ (lim : Int)) = True := eq_true (by omega)
    refine ⟨b1, mv1 R x, _, ?_, g1, nr, c, .inr rfl⟩
    rcases hV with rfl | rfl
    · simp (disch := omega) [turn, l__law_images_1, t1, mv, lc, e2, sl, c', hl2]
    · simp (disch := omega) [turn, l__law_images_1, t1, mv, lc, e2, sl, c', hl2]
  · have c' : (((tot (mv1 R x) : Nat) : Int) ≤ (lim : Int)) = False := eq_false (by omega)
    refine ⟨b1, R, V, ?_, g1, hR, ht, hV⟩
    rcases hV with rfl | rfl
    · simp (disch := omega) [turn, l__law_images_1, t1, mv, lc, e2, sl, c', hl2]
    · simp (disch := omega) [turn, l__law_images_1, t1, mv, lc, e2, sl, c', hl2]
end K15
namespace K15
open PySem J
theorem tot_start (n : Nat) : tot (start n) = n := by
  unfold tot
  rw [start_flat, pos_len]
theorem images_ok (bs : List D) (hb : Bag 0 bs) (n lim : Nat) (h0 : 1 ≤ n) (h8 : n ≤ 8) (hl : lim ≤ 1000) (hnl : n ≤ lim) : ∃ r R bs', f__law_images [.list bs, .int n, .int lim] = some (r, [bs']) ∧ RowR R r ∧ Nr n 1000 R ∧ tot R ≤ lim := by
  have st := start_ok (n : Int) (by omega) (by omega)
  rw [show ((n : Int)).toNat = n by omega] at st
  by_cases c1 : n = 1
  · subst c1
    refine ⟨_, start 1, bs, ?_, .inl rfl, (start_nr 1).up (by decide), by rw [tot_start]; omega⟩
    have st' : f__law_start [.int 1] = some (.ow (tl (start 1)), []) := st
    simp [f__law_images, q_fn, b__law_images, st']
  · have e1 : ((n : Int) = 1) = False := eq_false (by omega)
    obtain ⟨v, b1, t1, g1, v0, v1⟩ := take_ok bs 11 hb (by omega) (by decide) (by decide)
    -- the number of turns
    have main : ∀ (many : Int) (b2 : List D) (m : Int), Bag m b2 → m ≤ 3 → 0 ≤ many → many ≤ 30 → ∃ r R bs', runFor (gNm 5) l__law_images_1 [5, 6, 7] (rngD 0 many.toNat) [.ow b2, .fz (.int n), .fz (.int lim), .ow (tl (start n)), .fz (.int many), .no, .no, .no] = some (.nx [.ow bs', .fz (.int n), .fz (.int lim), r, .fz (.int many), .no, .no, .no]) ∧ (r = .ow (tl R) ∨ r = .fz (.list (tl R))) ∧ Nr n 1000 R ∧ tot R ≤ lim := fun many b2 m hb2 hm3 m0 m1 => by
      obtain ⟨E, q1, bs', R, V, q2, q3, q4, q5, q6⟩ := for_rng (g := gNm 5) (body := l__law_images_1) (er := [5, 6, 7]) (fun k E => ∃ bs' R V, E = [.ow bs', .fz (.int n), .fz (.int lim), V, .fz (.int many), .no, .no, .no] ∧ Bag (m + 2 * k) bs' ∧ Nr n 1000 R ∧ tot R ≤ lim ∧ (V = .ow (tl R) ∨ V = .fz (.list (tl R))))
        many.toNat 0 [.ow b2, .fz (.int n), .fz (.int lim), .ow (tl (start n)), .fz (.int many), .no, .no, .no] ⟨b2, start n, _, rfl, by simpa using hb2, (start_nr n).up (by decide), by rw [tot_start]; exact hnl, .inl rfl⟩ (fun k E a b ⟨bs', R, V, hE, hB, hR, ht, hV⟩ => by
          subst hE
          obtain ⟨bs2, R2, V2, i1, i2, i3, i4, i5⟩ := img_turn n lim (by omega) h8 hl bs' hB (by omega) R hR ht V hV (.fz (.int many)) k
          exact ⟨_, i1, bs2, R2, V2, rfl, by rw [show m + 2 * (k + 1) = m + 2 * k + 2 by omega]; exact i2, i3, i4, i5⟩)
      subst q2
      exact ⟨V, R, bs', q1, q6, q4, q5⟩
    have fin : ∀ (many : Int) (b2 : List D) (m : Int), Bag m b2 → m ≤ 3 → 0 ≤ many → many ≤ 30 → (∀ r bs', runFor (gNm 5) l__law_images_1 [5, 6, 7] (rngD 0 many.toNat) [.ow b2, .fz (.int n), .fz (.int lim), .ow (tl (start n)), .fz (.int many), .no, .no, .no] = some (.nx [.ow bs', .fz (.int n), .fz (.int lim), r, .fz (.int many), .no, .no, .no]) → ∀ R, (r = .ow (tl R) ∨ r = .fz (.list (tl R))) → ∃ rr bs2, f__law_images [.list bs, .int n, .int lim] = some (rr, [bs2]) ∧ RowR R rr) → ∃ r R bs', f__law_images [.list bs, .int n, .int lim] = some (r, [bs']) ∧ RowR R r ∧ Nr n 1000 R ∧ tot R ≤ lim := fun many b2 m hb2 hm3 m0 m1 h => by
      obtain ⟨r, R, bs', z1, z2, z3, z4⟩ := main many b2 m hb2 hm3 m0 m1
      obtain ⟨rr, bs2, y1, y2⟩ := h r bs' z1 R z2
      exact ⟨rr, R, bs2, y1, y2, z3, z4⟩
    by_cases c2 : v = 10
    · subst c2
      obtain ⟨u, b2, t2, g2, u0, u1⟩ := take_ok b1 15 g1 (by omega) (by decide) (by decide)
      refine fin (10 + u) b2 2 (by simpa using g2) (by omega) (by omega) (by omega) fun r bs' z R hr => ?_
      rcases hr with rfl | rfl
      · exact ⟨_, bs', by simp (disch := omega) [f__law_images, q_fn, b__law_images, st, e1, t1, t2, z], .inl rfl⟩
      · exact ⟨_, bs', by simp (disch := omega) [f__law_images, q_fn, b__law_images, st, e1, t1, t2, z], .inr rfl⟩
    · have e2 : (v = 10) = False := eq_false c2
      refine fin v b1 1 (by simpa using g1) (by omega) (by omega) (by omega) fun r bs' z R hr => ?_
      rcases hr with rfl | rfl
      · exact ⟨_, bs', by simp (disch := omega) [f__law_images, q_fn, b__law_images, st, e1, t1, e2, z], .inl rfl⟩
      · exact ⟨_, bs', by simp (disch := omega) [f__law_images, q_fn, b__law_images, st, e1, t1, e2, z], .inr rfl⟩
/-! ### turned -/
theorem conj_nr {n C D' : Nat} {R : List (List Int)} (by' : List Int) (hR : Nr n C R) (hg : Gn n by') (hl : C + 2 * by'.length ≤ D') : Nr n D' (R.map fun e => red (by' ++ e ++ inv by')) := by
  refine ⟨by simp [hR.len], fun x hx => ?_, fun x hx => ?_, fun x hx => ?_⟩
  · obtain ⟨e, he, rfl⟩ := List.mem_map.mp hx
    exact Gn.red ((hg.app (hR.gn e he)).app hg.inv)
  · obtain ⟨e, he, rfl⟩ := List.mem_map.mp hx
    exact red_is _
  · obtain ⟨e, he, rfl⟩ := List.mem_map.mp hx
    have h1 := (red_len (by' ++ e ++ inv by')).1
    have h2 := hR.le e he
    have h3 := inv_len by'
    unfold Le at *
    simp only [List.length_append] at h1
    omega
theorem pos_gn (n : Nat) : Gn n (pos n) := fun x hx => by
  unfold pos at hx
  obtain ⟨k, hk, rfl⟩ := List.mem_map.mp hx
  have := List.mem_range.mp hk
  omega
theorem rep_gn (n k : Nat) : Gn n (List.replicate k (pos n)).flatten := fun x hx => by
  obtain ⟨l, hl, hx⟩ := List.mem_flatten.mp hx
  rw [List.eq_of_mem_replicate hl] at hx
  exact pos_gn n x hx
theorem repp_len (n k : Nat) : (List.replicate k (pos n)).flatten.length = k * n := by
  induction k with
  | zero => simp
  | succ k ih => rw [List.replicate_succ, List.flatten_cons, List.length_append, ih, pos_len, Nat.succ_mul]; omega
theorem li_repp (l : List Int) (k : Nat) : (List.replicate k (li l)).flatten = li (List.replicate k l).flatten := by
  induction k with
  | zero => rfl
  | succ k ih => rw [List.replicate_succ, List.replicate_succ, List.flatten_cons, List.flatten_cons, ih]; simp [li]
theorem turn_by (bs : List D) (n : Nat) (A B C E : Sl) : runLc (gNm 8) tYes l__law_turned_1 [8] (rngD 0 n) [.ow bs, A, .fz (.int n), B, C, E, .no, .no, .no] = some (li (pos n), [.ow bs, A, .fz (.int n), B, C, E, .no, .no, .no]) := by
  have hc := lc_rng (g := gNm 8) (t := tYes) (a := l__law_turned_1) (er := [8]) (env := [.ow bs, A, .fz (.int n), B, C, E, .no, .no, .no]) (f := fun k => .int (k + 1)) n 0 fun k _ _ => by simp [turnL, l__law_turned_1]
  rw [hc]
  congr 2
  unfold pos li
  rw [List.map_map]
  apply List.map_congr_left
  intro k _
  simp
end K15
namespace K15
open PySem J
theorem turned_lc (n : Nat) (R : List (List Int)) (hR : Nr n 1000 R) (by' : List Int) (hb : by'.length ≤ 400) (a b c d e : Sl) : runLc (gNm 7) tYes l__law_turned_2 [7] (tl R) [a, b, c, d, e, .fz (.int x), .fz (.tuple (li by')), .no, .no] = some (tl (R.map fun e => red (by' ++ e ++ inv by')), [a, b, c, d, e, .fz (.int x), .fz (.tuple (li by')), .no, .no]) := by
  have := lc_tl (g := gNm 7) (t := tYes) (a := l__law_turned_2) (er := [7]) (env := [a, b, c, d, e, .fz (.int x), .fz (.tuple (li by')), .no, .no]) (f := fun e => Tu (red (by' ++ e ++ inv by'))) (R := R) fun e he => by
    have hl := hR.le e he
    unfold Le at hl
    have cj := conjd_ok e by' (by omega)
    simp [turnL, l__law_turned_2, cj, Tu, - List.append_assoc]
  rw [this]
  simp [tl, Function.comp_def]
theorem turned_ok (bs : List D) (hb : Bag 0 bs) (n : Nat) (h0 : 1 ≤ n) (h8 : n ≤ 8) (R : List (List Int)) (hR : Nr n 1000 R) : ∃ S bs', f__law_turned [.list bs, .list (tl R)] = some (.ow (tl S), [bs']) ∧ Nr n 2000 S := by
  obtain ⟨way, b1, t1, g1, v0, v1⟩ := take_ok bs 4 hb (by omega) (by decide) (by decide)
  have hn := hR.len
  obtain ⟨most, hmost, m0, m1⟩ : ∃ most : Int, ixD (.list [.int 0, .int 0, .int 40, .int 12, .int 4, .int 2, .int 1, .int 1, .int 1]) (.int n) = some (.fz (.int most)) ∧ 0 ≤ most ∧ most ≤ 40 := by
    have : n = 1 ∨ n = 2 ∨ n = 3 ∨ n = 4 ∨ n = 5 ∨ n = 6 ∨ n = 7 ∨ n = 8 := by omega
    rcases this with rfl | rfl | rfl | rfl | rfl | rfl | rfl | rfl <;> exact ⟨_, rfl, by decide, by decide⟩
  -- the end, for any exponent
  have fin : ∀ (x : Int) (k : Nat), x.natAbs = k → k ≤ 40 → ∃ by', Gn n by' ∧ by'.length ≤ 400 ∧ (0 ≤ x → by' = (List.replicate k (pos n)).flatten) ∧ (x < 0 → by' = inv (List.replicate k (pos n)).flatten) := fun x k hx hk => by
    have hl : (List.replicate k (pos n)).flatten.length ≤ 400 := by
      rw [repp_len]
      have : k * n ≤ 40 * 8 := Nat.mul_le_mul hk h8
      omega
    by_cases c : 0 ≤ x
    · exact ⟨_, rep_gn n k, hl, fun _ => rfl, fun z => by omega⟩
    · exact ⟨inv (List.replicate k (pos n)).flatten, (rep_gn n k).inv, by rw [inv_len]; exact hl, fun z => absurd z c, fun _ => rfl⟩
  have hlim : R.length ≤ limit := by unfold limit; omega
  have hlim2 : n ≤ limit := by unfold limit; omega
  have tb := fun (bs : List D) => turn_by bs n
  have mt := fun (j : Int) (a : -1000 ≤ j) (b : j ≤ 1000) => mulT (l := pos n) a b (by rw [pos_len]; omega)
  have ag := fun (k : Nat) (hk : k ≤ 40) => against_ok (List.replicate k (pos n)).flatten (by
    rw [repp_len]
    have : k * n ≤ 40 * 8 := Nat.mul_le_mul hk h8
    omega) _ (.inr rfl)
  have key : ∀ (x : Int) (b2 : List D), x.natAbs ≤ 40 → (∀ by', Gn n by' → by'.length ≤ 400 → (0 ≤ x → by' = (List.replicate x.natAbs (pos n)).flatten) → (x < 0 → by' = inv (List.replicate x.natAbs (pos n)).flatten) → f__law_turned [.list bs, .list (tl R)] = some (.ow (tl (R.map fun e => red (by' ++ e ++ inv by'))), [b2])) → ∃ S bs', f__law_turned [.list bs, .list (tl R)] = some (.ow (tl S), [bs']) ∧ Nr n 2000 S := fun x b2 hx h => by
    obtain ⟨by', y1, y2, y3, y4⟩ := fin x x.natAbs rfl hx
    exact ⟨_, b2, h by' y1 y2 y3 y4, conj_nr by' hR y1 (by omega)⟩
  by_cases c2 : way = 2
  · subst c2
    obtain ⟨u, b2, t2, g2, u0, u1⟩ := take_ok b1 3 g1 (by omega) (by decide) (by decide)
    refine key (u - 1) b2 (by omega) fun by' y1 y2 y3 y4 => ?_
    have lc := turned_lc (x := u - 1) n R hR by' y2
    have na : ((u - 1).natAbs : Int).toNat = (u - 1).natAbs := by omega
    have mt' := mt ((u - 1).natAbs) (by omega) (by omega)
    have ag' := ag (u - 1).natAbs (by omega)
    rw [na] at mt'
    by_cases c3 : u - 1 < 0
    · have e := y4 c3
      rw [← e] at ag'
      have e3 : (u - 1 < 0) = True := eq_true c3
      simp (disch := omega) [f__law_turned, q_fn, b__law_turned, hn, hmost, t1, t2, tb, hlim2, mt', ag', e3, lc, hlim, - List.append_assoc]
    · have e := y3 (by omega)
      rw [← e] at mt'
      have e3 : (u - 1 < 0) = False := eq_false c3
      simp (disch := omega) [f__law_turned, q_fn, b__law_turned, hn, hmost, t1, t2, tb, hlim2, mt', e3, lc, hlim, - List.append_assoc]
  · have e2 : (way = 2) = False := eq_false c2
    by_cases c4 : way = 3
    · subst c4
      obtain ⟨u, b2, t2, g2, u0, u1⟩ := take_ok b1 (2 * most + 1) g1 (by omega) (by omega) (by omega)
      refine key (u - most) b2 (by omega) fun by' y1 y2 y3 y4 => ?_
      have lc := turned_lc (x := u - most) n R hR by' y2
      have na : ((u - most).natAbs : Int).toNat = (u - most).natAbs := by omega
      have mt' := mt ((u - most).natAbs) (by omega) (by omega)
      have ag' := ag (u - most).natAbs (by omega)
      rw [na] at mt'
      by_cases c3 : u - most < 0
      · have e := y4 c3
        rw [← e] at ag'
        have e3 : (u - most < 0) = True := eq_true c3
        simp (disch := omega) [f__law_turned, q_fn, b__law_turned, hn, hmost, t1, t2, tb, hlim2, mt', ag', e3, lc, hlim, - List.append_assoc]
      · have e := y3 (by omega)
        rw [← e] at mt'
        have e3 : (u - most < 0) = False := eq_false c3
        simp (disch := omega) [f__law_turned, q_fn, b__law_turned, hn, hmost, t1, t2, tb, hlim2, mt', e3, lc, hlim, - List.append_assoc]
    · have e4 : (way = 3) = False := eq_false c4
      refine key 0 b1 (by decide) fun by' y1 y2 y3 y4 => ?_
      have lc := turned_lc (x := 0) n R hR by' y2
      have mt' := mt 0 (by omega) (by omega)
      have e := y3 (by omega)
      have e5 : (List.replicate (0 : Int).toNat (pos n)).flatten = by' := by rw [e]; rfl
      rw [e5] at mt'
      simp (disch := omega) [f__law_turned, q_fn, b__law_turned, hn, hmost, t1, e2, e4, tb, hlim2, mt', lc, hlim, - List.append_assoc]
end K15
namespace K15
open PySem J
/-! ### rows that are spoilt -/
theorem Nr.set {n C : Nat} {R : List (List Int)} (h : Nr n C R) (i : Nat) {e : List Int} (hg : Gn n e) (hl : e.length ≤ C) : Nr n C (R.set i (red e)) := by
  have mem : ∀ x ∈ R.set i (red e), x ∈ R ∨ x = red e := fun x hx => List.mem_or_eq_of_mem_set hx
  refine ⟨by rw [List.length_set]; exact h.len, fun x hx => ?_, fun x hx => ?_, fun x hx => ?_⟩
  · rcases mem x hx with q | rfl
    · exact h.gn x q
    · exact hg.red
  · rcases mem x hx with q | rfl
    · exact h.rd x q
    · exact red_is _
  · rcases mem x hx with q | rfl
    · exact h.le x q
    · exact Nat.le_trans (red_len e).1 hl
theorem Nr.at {n C : Nat} {R : List (List Int)} (h : Nr n C R) (i : Int) : Gn n (gR R i) ∧ (gR R i).length ≤ C := by
  refine ⟨?_, gR_le h.le i⟩
  unfold gR
  rw [List.getD_eq_getElem?_getD]
  cases q : R[i.toNat]? with
  | none => exact fun x hx => by simp at hx
  | some e => exact h.gn e (List.mem_of_getElem? q)
/-- one letter round -/
def rt (n : Nat) (x : Int) : Int := if x < 0 then -((x.natAbs : Int).fmod n + 1) else (x.natAbs : Int).fmod n + 1
theorem rt_abs {n : Nat} (h0 : 1 ≤ n) (x : Int) : (rt n x).natAbs = x.natAbs % n + 1 ∧ (rt n x < 0 ↔ x < 0) := by
  have e : (x.natAbs : Int).fmod n = ((x.natAbs % n : Nat) : Int) := by
    rw [Int.fmod_eq_emod_of_nonneg _ (by omega)]
    exact (Int.natCast_emod _ _).symm
  unfold rt
  rw [e]
  split <;> omega
theorem mod_inj {n a b : Nat} (ha : 1 ≤ a) (ha' : a ≤ n) (hb : 1 ≤ b) (hb' : b ≤ n) (e : a % n = b % n) : a = b := by
  have h : ∀ {c : Nat}, 1 ≤ c → c ≤ n → (c % n = 0 ∧ c = n) ∨ (c % n = c ∧ c < n) := fun {c} h1 h2 => by
    rcases Nat.lt_or_ge c n with q | q
    · exact .inr ⟨Nat.mod_eq_of_lt q, q⟩
    · have : c = n := by omega
      subst this
      exact .inl ⟨Nat.mod_self _, rfl⟩
  rcases h ha ha' with ⟨p, q⟩ | ⟨p, q⟩ <;> rcases h hb hb' with ⟨r, s⟩ | ⟨r, s⟩ <;> omega
theorem rt_gn {n : Nat} (h0 : 1 ≤ n) {e : List Int} (h : Gn n e) : Gn n (e.map (rt n)) := fun x hx => by
  obtain ⟨y, hy, rfl⟩ := List.mem_map.mp hx
  have := (rt_abs h0 y).1
  have m := Nat.mod_lt y.natAbs (show 0 < n by omega)
  omega
theorem rt_rd {n : Nat} (h0 : 1 ≤ n) : ∀ {e : List Int}, Gn n e → Rd e → Rd (e.map (rt n))
  | [], _, _ => trivial
  | [a], _, _ => trivial
  | a :: b :: t, hg, h => by
    refine ⟨fun e => h.1 ?_, rt_rd h0 (e := b :: t) (fun x hx => hg x (List.mem_cons_of_mem _ hx)) h.2⟩
    have ga := hg a List.mem_cons_self
    have gb := hg b (List.mem_cons_of_mem _ List.mem_cons_self)
    obtain ⟨a1, a2⟩ := rt_abs h0 a
    obtain ⟨b1, b2⟩ := rt_abs h0 b
    have : b.natAbs = a.natAbs := mod_inj (n := n) (by omega) (by omega) (by omega) (by omega) (by omega)
    omega
theorem round_in (n : Nat) (h0 : 1 ≤ n) (A B C : Sl) (e : List Int) (hl : e.length ≤ 1000000) : ∀ (rest done : List Int), done ++ rest = e →
    runFor (gNm 5) l__law_round_2 [5, 6] (li rest) [A, .fz (.int n), B, C, .ow (li (done.map (rt n))), .no, .no] = some (.nx [A, .fz (.int n), B, C, .ow (li (e.map (rt n))), .no, .no])
  | [], done, q => by rw [List.append_nil] at q; subst q; rfl
  | x :: rest, done, q => by
    have hd : (done.map (rt n)).length < 16777216 := by rw [List.length_map]; have := congrArg List.length q; simp at this; omega
    have hn : ((n : Int) = 0) = False := eq_false (by omega)
    have ih := round_in n h0 A B C e hl rest (done ++ [x]) (by rw [List.append_assoc]; exact q)
    rw [List.map_append] at ih
    have e1 : li (x :: rest) = .int x :: li rest := rfl
    have t : turn (gNm 5) l__law_round_2 [5, 6] (.int x) [A, .fz (.int n), B, C, .ow (li (done.map (rt n))), .no, .no] = some (.go [A, .fz (.int n), B, C, .ow (li (done.map (rt n) ++ [x].map (rt n))), .no, .no]) := by
      generalize done.map (rt n) = w at *
      by_cases c : x < 0
      · have e2 : [x].map (rt n) = [-((x.natAbs : Int).fmod n + 1)] := by simp [rt, c]
        rw [e2]
        simp (disch := omega) [turn, l__law_round_2, c, hn]
      · have e2 : [x].map (rt n) = [(x.natAbs : Int).fmod n + 1] := by simp [rt, c]
        rw [e2]
        simp (disch := omega) [turn, l__law_round_2, c, hn]
    rw [e1, for_go t, ih]
theorem round_out (n : Nat) (h0 : 1 ≤ n) (h8 : n ≤ 8) (R : List (List Int)) (hl : R.length ≤ 8) (hs : All (Le 1000000) R) : ∀ (rest done : List (List Int)), done ++ rest = R →
    runFor (gNm 3) l__law_round_1 [3, 4, 5, 6] (tl rest) [.bw (tl R), .fz (.int n), .ow (tl (done.map (List.map (rt n)))), .no, .no, .no, .no] = some (.nx [.bw (tl R), .fz (.int n), .ow (tl (R.map (List.map (rt n)))), .no, .no, .no, .no])
  | [], done, q => by rw [List.append_nil] at q; subst q; rfl
  | e :: rest, done, q => by
    have hd : (done.map (List.map (rt n))).length < 16777216 := by rw [List.length_map]; have := congrArg List.length q; simp at this; omega
    have ih := round_out n h0 h8 R hl hs rest (done ++ [e]) (by rw [List.append_assoc]; exact q)
    rw [List.map_append] at ih
    have he : e.length ≤ 1000000 := hs e (by rw [← q]; simp)
    have lp := fun (A B C : Sl) => round_in n h0 A B C e he e [] rfl
    simp only [List.map_nil, li_nil] at lp
    have hz : (e.map (rt n)).length ≤ limit := by rw [List.length_map]; unfold limit; omega
    have t : turn (gNm 3) l__law_round_1 [3, 4, 5, 6] (.tuple (li e)) [.bw (tl R), .fz (.int n), .ow (tl (done.map (List.map (rt n)))), .no, .no, .no, .no] = some (.go [.bw (tl R), .fz (.int n), .ow (tl (done.map (List.map (rt n)) ++ [e].map (List.map (rt n)))), .no, .no, .no, .no]) := by
      generalize done.map (List.map (rt n)) = w at *
      have e2 : [e].map (List.map (rt n)) = [e.map (rt n)] := rfl
      rw [e2]
      generalize e.map (rt n) = e' at *
      simp (disch := omega) [turn, l__law_round_1, lp, hz]
    rw [tl_cons, for_go t, ih]
theorem round_ok (n C : Nat) (h0 : 1 ≤ n) (h8 : n ≤ 8) (hC : C ≤ 1000000) (R : List (List Int)) (hR : Nr n C R) : f__law_round [.list (tl R)] = some (.ow (tl (R.map (List.map (rt n)))), []) ∧ Nr n C (R.map (List.map (rt n))) := by
  have lp := round_out n h0 h8 R (by rw [hR.len]; exact h8) (fun x hx => Nat.le_trans (hR.le x hx) hC) R [] rfl
  have hn := hR.len
  constructor
  · simp only [List.map_nil, tl_nil] at lp
    simp [f__law_round, q_fn, b__law_round, hn, lp]
  · refine ⟨by rw [List.length_map]; exact hR.len, fun x hx => ?_, fun x hx => ?_, fun x hx => ?_⟩
    · obtain ⟨e, he, rfl⟩ := List.mem_map.mp hx
      exact rt_gn h0 (hR.gn e he)
    · obtain ⟨e, he, rfl⟩ := List.mem_map.mp hx
      exact red_of_rd (rt_rd h0 (hR.gn e he) (rd_of_red (hR.rd e he)))
    · obtain ⟨e, he, rfl⟩ := List.mem_map.mp hx
      unfold Le
      rw [List.length_map]
      exact hR.le e he
end K15
namespace K15
open PySem J
theorem one_li (x : Int) : ([PyData.int x] : List D) = li [x] := rfl
theorem addTx {l : List Int} {x : Int} (h : l.length ≤ 16000000) : addD (.tuple (li l)) (.tuple [.int x]) = some (.fz (.tuple (li (l ++ [x])))) := by
  rw [one_li, addT (by simp; omega)]
theorem behind_ok {m : Int} (bs : List D) (hb : Bag m bs) (hm : m < 1000) (n C : Nat) (h2 : 2 ≤ n) (h8 : n ≤ 8) (hC : C ≤ 100000) (R : List (List Int)) (hR : Nr n C R) :
    ∃ S bs', f__law_behind [.list bs, .list (tl R)] = some (.ow (tl S), [bs']) ∧ Bag (m + 6) bs' ∧ Nr n (C + 4) S := by
  have hn := hR.len
  obtain ⟨low, b1, t1, g1, l0, l1⟩ := take_ok bs ((n : Int) - 1) hb (by omega) (by omega) (by omega)
  obtain ⟨x, b2, t2, g2, x0, x1⟩ := letter_ok b1 (n : Int) g1 (by omega) (by omega) (by omega)
  obtain ⟨y, b3, t3, g3, y0, y1⟩ := letter_ok b2 (n : Int) g2 (by omega) (by omega) (by omega)
  obtain ⟨u, b4, t4, g4, u0, u1⟩ := take_ok b3 3 g3 (by omega) (by omega) (by omega)
  have g4' : Bag (m + 6) b4 := by rw [show m + 6 = m + 1 + 2 + 2 + 1 by omega]; exact g4
  obtain ⟨by', hby, hg, hl⟩ : ∃ by' : List Int, ixD (.list [.tuple [.int x], .tuple [.int x, .int y], .tuple [.int x, .int y, .int (-x), .int (-y)]]) (.int u) = some (.fz (.tuple (li by'))) ∧ Gn n by' ∧ by'.length ≤ 4 := by
    have gx : x ≠ 0 ∧ x.natAbs ≤ n := by omega
    have gy : y ≠ 0 ∧ y.natAbs ≤ n := by omega
    have gx' : -x ≠ 0 ∧ (-x).natAbs ≤ n := by omega
    have gy' : -y ≠ 0 ∧ (-y).natAbs ≤ n := by omega
    have : u = 0 ∨ u = 1 ∨ u = 2 := by omega
    rcases this with rfl | rfl | rfl
    · exact ⟨[x], rfl, fun z hz => by simp at hz; subst hz; exact gx, by simp⟩
    · exact ⟨[x, y], rfl, fun z hz => by
        simp at hz
        rcases hz with rfl | rfl
        · exact gx
        · exact gy, by simp⟩
    · exact ⟨[x, y, -x, -y], rfl, fun z hz => by
        simp at hz
        rcases hz with rfl | rfl | rfl | rfl
        · exact gx
        · exact gy
        · exact gx'
        · exact gy', by simp⟩
  obtain ⟨ga, la⟩ := hR.at low
  obtain ⟨gb, lb⟩ := hR.at (low + 1)
  have il := inv_len by'
  have ag := against_ok by' (by omega) _ (.inr rfl)
  have p1 := put_ok R low (gR R low ++ by') (by omega) l0 (by omega) (by simp; omega)
  have s1 : Nr n (C + 4) (R.set low.toNat (red (gR R low ++ by'))) := (hR.up (by omega)).set _ (ga.app hg) (by simp; omega)
  have p2 := put_ok (R.set low.toNat (red (gR R low ++ by'))) (low + 1) (inv by' ++ gR R (low + 1)) (by rw [List.length_set]; omega) (by omega) (by rw [List.length_set]; omega) (by simp; omega)
  have s2 := s1.set (low + 1).toNat (e := inv by' ++ gR R (low + 1)) (hg.inv.app gb) (by simp; omega)
  refine ⟨_, b4, ?_, g4', s2⟩
  simp (disch := omega) [f__law_behind, q_fn, b__law_behind, hn, t1, t2, t3, t4, hby, ag, p1, p2, - List.append_assoc]
/-- letters drawn into a list -/
theorem draws_lc {n : Nat} (h0 : 1 ≤ n) (h8 : n ≤ 8) (A B C E F G : Sl) : ∀ (k : Nat) (lo : Int) (m : Int) (bs : List D), Bag m bs → m + 2 * k < 1000 → ∃ l bs', runLc (gNm 9) tYes l__law_spoilt_1 [9] (rngD lo k) [.ow bs, A, .fz (.int n), B, C, E, F, G, .no, .no, .no] = some (li l, [.ow bs', A, .fz (.int n), B, C, E, F, G, .no, .no, .no]) ∧ Bag (m + 2 * k) bs' ∧ Gn n l ∧ l.length = k
  | 0, lo, m, bs, hb, _ => ⟨[], bs, rfl, by simpa using hb, fun x hx => by simp at hx, rfl⟩
  | k + 1, lo, m, bs, hb, hm => by
    obtain ⟨x, b1, t1, g1, x0, x1⟩ := letter_ok bs (n : Int) hb (by omega) (by omega) (by omega)
    obtain ⟨l, b2, q1, q2, q3, q4⟩ := draws_lc h0 h8 A B C E F G k (lo + 1) (m + 2) b1 g1 (by omega)
    refine ⟨x :: l, b2, ?_, by rw [show m + 2 * ((k + 1 : Nat) : Int) = m + 2 + 2 * (k : Int) by omega]; exact q2, fun z hz => ?_, by simp [q4]⟩
    · have e : rngD lo (k + 1) = .int lo :: rngD (lo + 1) k := by
        unfold rngD
        rw [List.range_succ_eq_map, List.map_cons, List.map_map]
        congr 1
        · simp
        · apply List.map_congr_left
          intro i _
          show PyData.int (lo + ((i + 1 : Nat) : Int)) = PyData.int (lo + 1 + (i : Int))
          congr 1
          omega
      have t : turnL (gNm 9) tYes l__law_spoilt_1 [9] (.int lo) [.ow bs, A, .fz (.int n), B, C, E, F, G, .no, .no, .no] = some (some (.int x), [.ow b1, A, .fz (.int n), B, C, E, F, G, .no, .no, .no]) := by
        simp [turnL, l__law_spoilt_1, t1]
      rw [e, lc_turn, t]
      show kRl4 (.int x) (runLc _ _ _ _ _ _) = _
      rw [q1]
      rfl
    · rcases List.mem_cons.mp hz with rfl | hz
      · omega
      · exact q3 z hz
end K15
namespace K15
open PySem J
def RowsOk (n C : Nat) (ds : List D) : Prop := ∀ d ∈ ds, ∃ S, d = .list (tl S) ∧ Nr n C S
theorem rowsOk_nil {n C : Nat} : RowsOk n C [] := fun d hd => by simp at hd
theorem rowsOk_cons {n C : Nat} {S : List (List Int)} {ds : List D} (h : Nr n C S) (t : RowsOk n C ds) : RowsOk n C (.list (tl S) :: ds) := fun d hd => by
  rcases List.mem_cons.mp hd with rfl | hd
  · exact ⟨S, rfl, h⟩
  · exact t d hd
theorem spoilt_ok (bs : List D) (hb : Bag 0 bs) (n : Nat) (h0 : 1 ≤ n) (h8 : n ≤ 8) (R : List (List Int)) (hR : Nr n 2000 R) :
    ∃ ds bs', f__law_spoilt [.list bs, .list (tl R)] = some (.ow ds, [bs']) ∧ RowsOk n 9000 ds := by
  have hn := hR.len
  have hR9 : Nr n 9000 R := hR.up (by decide)
  obtain ⟨at_, b1, t1, g1, a0, a1⟩ := take_ok bs (n : Int) hb (by omega) (by omega) (by omega)
  obtain ⟨v, b2, t2, g2, v0, v1⟩ := take_ok b1 (max 1 ((n : Int) - 1)) g1 (by omega) (by omega) (by omega)
  obtain ⟨x, b3, t3, g3, x0, x1⟩ := letter_ok b2 (n : Int) g2 (by omega) (by omega) (by omega)
  obtain ⟨w, b4, t4, g4, w0, w1⟩ := take_ok b3 4 g3 (by omega) (by omega) (by omega)
  obtain ⟨away, haw⟩ : ∃ away : Int, away = (at_ + 1 + v).fmod n := ⟨_, rfl⟩
  have aw0 : 0 ≤ away := by rw [haw]; exact fmod_nn _ (by omega)
  have aw1 : away < n := by rw [haw]; exact fmod_lt _ (by omega)
  have hn0 : ((n : Int) = 0) = False := eq_false (by omega)
  have gx : Gn n [x] := fun z hz => by simp at hz; subst hz; omega
  obtain ⟨l, b5, q1, q2, q3, q4⟩ := draws_lc h0 h8 (.bw (tl R)) (.fz (.int at_)) (.fz (.int away)) (.fz (.int x)) .no .no (1 + w).toNat 0 _ b4 g4 (by omega)
  have rl := reduced_ok l (by omega) _ (.inl rfl)
  have lr := (red_len l).1
  obtain ⟨ge, le⟩ := hR.at at_
  obtain ⟨gw, lw⟩ := hR.at away
  have p1 := put_ok R at_ (gR R at_ ++ [x]) (by omega) a0 (by omega) (by simp; omega)
  have s1 : Nr n 9000 (R.set at_.toNat (red (gR R at_ ++ [x]))) := hR9.set _ (ge.app gx) (by simp; omega)
  have p8 := put_ok R at_ (gR R away) (by omega) a0 (by omega) (by omega)
  have s8 : Nr n 9000 (R.set at_.toNat (red (gR R away))) := hR9.set _ gw (by omega)
  have p2 := put_ok (R.set at_.toNat (red (gR R away))) away (gR R at_) (by rw [List.length_set]; omega) aw0 (by rw [List.length_set]; omega) (by omega)
  have s2 := s8.set away.toNat ge (by omega)
  have il := inv_len (gR R at_)
  have ag := against_ok (gR R at_) (by omega) _ (.inr rfl)
  have p3 := put_ok R at_ (inv (gR R at_)) (by omega) a0 (by omega) (by omega)
  have s3 : Nr n 9000 (R.set at_.toNat (red (inv (gR R at_)))) := hR9.set _ ge.inv (by omega)
  have cj := conjd_ok (gR R at_) [x] (by simp; omega)
  rw [show li [x] = [PyData.int x] from rfl] at cj
  have cl := (red_len ([x] ++ gR R at_ ++ inv [x])).1
  have cl2 : ([x] ++ gR R at_ ++ inv [x]).length ≤ 3000 := by simp [inv_len]; omega
  have ge4 : Gn n (red ([x] ++ gR R at_ ++ inv [x])) := Gn.red ((gx.app ge).app gx.inv)
  have le4 : (red ([x] ++ gR R at_ ++ inv [x])).length ≤ 3000 := by omega
  generalize red ([x] ++ gR R at_ ++ inv [x]) = E4 at *
  have p4 := put_ok R at_ E4 (by omega) a0 (by omega) (by omega)
  have s4 : Nr n 9000 (R.set at_.toNat (red E4)) := hR9.set _ ge4 (by omega)
  have lc5 := fun (A : Sl) => (lc_tl (g := gNm 10) (t := tYes) (a := l__law_spoilt_2) (er := [10]) (env := [.ow b5, .bw (tl R), .fz (.int n), .fz (.int at_), .fz (.int away), .fz (.int x), .fz (.tuple (li (red l))), .fz (.tuple (li (gR R at_))), A, .no, .no]) (f := fun e => Tu (red (red l ++ e ++ inv (red l)))) (R := R) fun e he => by
    have hl := hR.le e he
    unfold Le at hl
    have cj := conjd_ok e (red l) (by omega)
    simp [turnL, l__law_spoilt_2, cj, Tu, - List.append_assoc])
  have m5 : (R.map fun e => Tu (red (red l ++ e ++ inv (red l)))) = tl (R.map fun e => red (red l ++ e ++ inv (red l))) := by simp [tl, Function.comp_def]
  have s5 : Nr n 9000 (R.map fun e => red (red l ++ e ++ inv (red l))) := conj_nr (red l) hR (Gn.red q3) (by omega)
  have s6 : Nr n 9000 (R.tail ++ R.take 1) := by
    have mem : ∀ e ∈ R.tail ++ R.take 1, e ∈ R := fun e he => by
      rcases List.mem_append.mp he with h | h
      · exact List.mem_of_mem_tail h
      · exact List.mem_of_mem_take h
    exact ⟨by rw [List.length_append, List.length_tail, List.length_take]; omega, fun e he => hR9.gn e (mem e he), fun e he => hR9.rd e (mem e he), fun e he => hR9.le e (mem e he)⟩
  have c6a : cutD (tl R) (some 1) none = tl R.tail := by rw [cut_from (tl R) (by decide) (by rw [tl_len]; omega)]; simp [tl, List.map_tail]
  have c6b : cutD (tl R) none (some 1) = tl (R.take 1) := by rw [cut_to (tl R) (by decide) (by rw [tl_len]; omega)]; simp [tl, List.map_take]
  have m6 : addD (.list (tl R.tail)) (.list (tl (R.take 1))) = some (.ow (tl (R.tail ++ R.take 1))) := by
    rw [addD_2, if_pos (by rw [tl_len, tl_len, List.length_tail, List.length_take]; unfold limit; omega)]
    simp [tl]
  obtain ⟨p7, s7⟩ := round_ok n 2000 h0 h8 (by decide) R hR
  replace s7 := s7.up (show 2000 ≤ 9000 by decide)
  have p9 := put_ok R at_ (gR R at_ ++ gR R at_ ++ gR R at_) (by omega) a0 (by omega) (by simp only [List.length_append]; omega)
  have s9 : Nr n 9000 (R.set at_.toNat (red (gR R at_ ++ gR R at_ ++ gR R at_))) := hR9.set _ ((ge.app ge).app ge) (by simp only [List.length_append]; omega)
  have p10 := put_ok R at_ [] (by omega) a0 (by omega) (by simp)
  rw [show li [] = [] from rfl] at p10
  have s10 : Nr n 9000 (R.set at_.toNat (red [])) := hR9.set _ (fun z hz => by simp at hz) (by simp)
  have ax : addD (.tuple (li (gR R at_))) (.tuple [.int x]) = some (.fz (.tuple (li (gR R at_ ++ [x])))) := addTx (by omega)
  have a9 : addD (.tuple (li (gR R at_ ++ gR R at_))) (.tuple (li (gR R at_))) = some (.fz (.tuple (li (gR R at_ ++ gR R at_ ++ gR R at_)))) := addT (by rw [List.length_append]; omega)
  have h16 : (n ≤ 16777216) = True := eq_true (by omega)
  have h17 : (1 + w ≤ 16777216) = True := eq_true (by omega)
  have hl1 : (1 + w).toNat ≤ limit := by unfold limit; omega
  have hl2 : R.length ≤ limit := by rw [hn]; unfold limit; omega
  have hl3 : l.length ≤ limit := by rw [q4]; exact hl1
  by_cases c : n = 1
  · have e2 : ((2 : Int) ≤ (n : Int)) = False := eq_false (by omega)
    refine ⟨_, b5, ?_, rowsOk_cons s1 (rowsOk_cons s2 (rowsOk_cons s3 (rowsOk_cons s4 (rowsOk_cons s5 (rowsOk_cons s6 (rowsOk_cons s7 (rowsOk_cons s8 (rowsOk_cons s9 (rowsOk_cons s10 rowsOk_nil)))))))))⟩
    simp (disch := omega) [f__law_spoilt, q_fn, b__law_spoilt, hn, t1, t2, t3, t4, ← haw, hn0, q1, rl, p1, p8, p2, ag, p3, cj, p4, lc5, m5, c6a, c6b, m6, p7, p9, p10, ax, a9, hl1, hl2, hl3, h16, h17, e2, kApp3_1, limit, - List.append_assoc]
  · have e2 : ((2 : Int) ≤ (n : Int)) = True := eq_true (by omega)
    obtain ⟨S11, b6, y1, y2, y3⟩ := behind_ok b5 q2 (by omega) n 2000 (by omega) h8 (by decide) R hR
    obtain ⟨S12, b7, z1, z2, z3⟩ := behind_ok b6 y2 (by omega) n 2000 (by omega) h8 (by decide) R hR
    refine ⟨_, b7, ?_, rowsOk_cons s1 (rowsOk_cons s2 (rowsOk_cons s3 (rowsOk_cons s4 (rowsOk_cons s5 (rowsOk_cons s6 (rowsOk_cons s7 (rowsOk_cons s8 (rowsOk_cons s9 (rowsOk_cons s10 (rowsOk_cons (y3.up (by decide)) (rowsOk_cons (z3.up (by decide)) rowsOk_nil)))))))))))⟩
    simp (disch := omega) [f__law_spoilt, q_fn, b__law_spoilt, hn, t1, t2, t3, t4, ← haw, hn0, q1, rl, p1, p8, p2, ag, p3, cj, p4, lc5, m5, c6a, c6b, m6, p7, p9, p10, ax, a9, hl1, hl2, hl3, h16, h17, e2, y1, z1, kApp3_1, limit, - List.append_assoc]
end K15
namespace K15
open PySem J
theorem law_loop (A B C D' E : Sl) : ∀ (ds : List D), RowsOk n 9000 ds → 1 ≤ n → n ≤ 8 → runFor (gNm 6) l_law_1 [6] ds [A, B, C, D', E, F, .no] = some (.nx [A, B, C, D', E, F, .no])
  | [], _, _, _ => rfl
  | d :: ds, h, h0, h8 => by
    obtain ⟨S, rfl, hS⟩ := h d List.mem_cons_self
    have ho := holds_ok S (hS.nice h0 h8 (by decide))
    have t : turn (gNm 6) l_law_1 [6] (.list (tl S)) [A, B, C, D', E, F, .no] = some (.go [A, B, C, D', E, F, .no]) := by
      simp [turn, l_law_1, ho]
    rw [for_go t]
    exact law_loop A B C D' E ds (fun d hd => h d (List.mem_cons_of_mem _ hd)) h0 h8
theorem law_true : ∀ ns : List Int, ns.length ≤ 63 → f_law [.list (ns.map PyData.int)] = some (.fz (.bool true), []) := by
  intro ns hns
  show f_law [.list (li ns)] = _
  obtain ⟨p0, e0, g0⟩ := purse_ok ns 0 (by decide) (by decide)
  obtain ⟨p1, e1, g1⟩ := purse_ok ns 1 (by decide) (by decide)
  obtain ⟨p2, e2, g2⟩ := purse_ok ns 2 (by decide) (by decide)
  obtain ⟨p3, e3, g3⟩ := purse_ok ns 3 (by decide) (by decide)
  obtain ⟨v, b1, t1, k1, v0, v1⟩ := take_ok p0 10 g0 (by decide) (by decide) (by decide)
  obtain ⟨sn, hsn, s0, s8⟩ : ∃ sn : Nat, ixD (.list [.int 3, .int 2, .int 3, .int 3, .int 4, .int 4, .int 5, .int 5, .int 1, .int 8]) (.int v) = some (.fz (.int (sn : Int))) ∧ 1 ≤ sn ∧ sn ≤ 8 := by
    have : v = 0 ∨ v = 1 ∨ v = 2 ∨ v = 3 ∨ v = 4 ∨ v = 5 ∨ v = 6 ∨ v = 7 ∨ v = 8 ∨ v = 9 := by omega
    rcases this with rfl | rfl | rfl | rfl | rfl | rfl | rfl | rfl | rfl | rfl
    · exact ⟨3, rfl, by decide, by decide⟩
    · exact ⟨2, rfl, by decide, by decide⟩
    · exact ⟨3, rfl, by decide, by decide⟩
    · exact ⟨3, rfl, by decide, by decide⟩
    · exact ⟨4, rfl, by decide, by decide⟩
    · exact ⟨4, rfl, by decide, by decide⟩
    · exact ⟨5, rfl, by decide, by decide⟩
    · exact ⟨5, rfl, by decide, by decide⟩
    · exact ⟨1, rfl, by decide, by decide⟩
    · exact ⟨8, rfl, by decide, by decide⟩
  -- what follows, for any number of strands
  have main : ∀ (n lim : Nat), 1 ≤ n → n ≤ 8 → lim ≤ 1000 → n ≤ lim → ∃ r R b2 S b3 ds b4, f__law_images [.list p1, .int n, .int lim] = some (r, [b2]) ∧ RowR R r ∧ f__law_row_holds [.list (tl R)] = some (.fz (.bool true), []) ∧
      f__law_turned [.list p2, .list (tl R)] = some (.ow (tl S), [b3]) ∧ f__law_row_holds [.list (tl S)] = some (.fz (.bool true), []) ∧ f__law_spoilt [.list p3, .list (tl S)] = some (.ow ds, [b4]) ∧ RowsOk n 9000 ds := fun n lim h0 h8 hl hnl => by
    obtain ⟨r, R, b2, i1, i2, i3, i4⟩ := images_ok p1 g1 n lim h0 h8 hl hnl
    obtain ⟨S, b3, j1, j2⟩ := turned_ok p2 g2 n h0 h8 R i3
    obtain ⟨ds, b4, l1, l2⟩ := spoilt_ok p3 g3 n h0 h8 S j2
    exact ⟨r, R, b2, S, b3, ds, b4, i1, i2, holds_ok R (i3.nice h0 h8 (by decide)), j1, holds_ok S (j2.nice h0 h8 (by decide)), l1, l2⟩
  have fin : ∀ (n : Nat) (b2 : List D) (q : Int), Bag q b2 → q ≤ 2 → 1 ≤ n → n ≤ 8 → ∃ w b3 lim, f__law_take [.list b2, .int 12] = some (.fz (.int w), [b3]) ∧ ((w = 1 ∧ lim = 600) ∨ (w ≠ 1 ∧ lim = 200)) ∧ n ≤ lim ∧ lim ≤ 1000 := fun n b2 q hq q2 h0 h8 => by
    obtain ⟨w, b3, t, _, _, _⟩ := take_ok b2 12 hq (by omega) (by decide) (by decide)
    by_cases c : w = 1
    · exact ⟨w, b3, 600, t, .inl ⟨c, rfl⟩, by omega, by decide⟩
    · exact ⟨w, b3, 200, t, .inr ⟨c, rfl⟩, by omega, by decide⟩
  by_cases c : sn = 8
  · subst c
    obtain ⟨u, b2, t2, k2, u0, u1⟩ := take_ok b1 3 k1 (by decide) (by decide) (by decide)
    obtain ⟨n, hn, h0, h8⟩ : ∃ n : Nat, 8 - u = (n : Int) ∧ 1 ≤ n ∧ n ≤ 8 := ⟨(8 - u).toNat, by omega, by omega, by omega⟩
    obtain ⟨w, b3, lim, t3, hw, hl1, hl2⟩ := fin n b2 2 (by simpa using k2) (by decide) h0 h8
    obtain ⟨r, R, b4, S, b5, ds, b6, m1, m2, m3, m4, m5, m6, m7⟩ := main n lim h0 h8 hl2 hl1
    have lp := fun (A B C D' E F : Sl) => law_loop (n := n) (F := F) A B C D' E ds m7 h0 h8
    rcases hw with ⟨rfl, rfl⟩ | ⟨hw, rfl⟩
    · rw [show ((600 : Nat) : Int) = 600 from rfl] at m1
      rcases m2 with rfl | rfl <;> simp [f_law, q_fn, b_law, e0, e1, e2, e3, t1, hsn, t2, hn, t3, m1, m3, m4, m5, m6, lp]
    · have ew : (w = 1) = False := eq_false hw
      rw [show ((200 : Nat) : Int) = 200 from rfl] at m1
      rcases m2 with rfl | rfl <;> simp [f_law, q_fn, b_law, e0, e1, e2, e3, t1, hsn, t2, hn, t3, ew, m1, m3, m4, m5, m6, lp]
  · have e8 : ((sn : Int) = 8) = False := eq_false (by omega)
    obtain ⟨w, b3, lim, t3, hw, hl1, hl2⟩ := fin sn b1 1 (by simpa using k1) (by decide) s0 s8
    obtain ⟨r, R, b4, S, b5, ds, b6, m1, m2, m3, m4, m5, m6, m7⟩ := main sn lim s0 s8 hl2 hl1
    have lp := fun (A B C D' E F : Sl) => law_loop (n := sn) (F := F) A B C D' E ds m7 s0 s8
    rcases hw with ⟨rfl, rfl⟩ | ⟨hw, rfl⟩
    · rw [show ((600 : Nat) : Int) = 600 from rfl] at m1
      rcases m2 with rfl | rfl <;> simp [f_law, q_fn, b_law, e0, e1, e2, e3, t1, hsn, e8, t3, m1, m3, m4, m5, m6, lp]
    · have ew : (w = 1) = False := eq_false hw
      rw [show ((200 : Nat) : Int) = 200 from rfl] at m1
      rcases m2 with rfl | rfl <;> simp [f_law, q_fn, b_law, e0, e1, e2, e3, t1, hsn, e8, t3, ew, m1, m3, m4, m5, m6, lp]
end K15
/-! JS: the readings of JP are kept by the hand layer's rules. -/
namespace J
open PySem L2
abbrev Fr := PySem.W.Frag
/-! ### data in a heap -/
/-- a tuple without an own dict -/
def Tz (F : Hp) (a : Addr) (xs : List V) : Prop := ∃ o : Obj, F a = some (.frz o (.tup xs)) ∧ o.dict = none
theorem Tz.up {F F' : Hp} {a : Addr} {xs : List V} (h : Tz F a xs) (e : ∀ a o, F a = some o → F' a = some o) : Tz F' a xs := let ⟨o, h1, h2⟩ := h; ⟨o, e _ _ h1, h2⟩
theorem Tz.sq {K : Fr} {F : Hp} {a : Addr} {xs : List V} (h : Tz F a xs) : SqT K F a xs := let ⟨o, h1, _⟩ := h; .inl (.inr ⟨o, h1⟩)
mutual
inductive Rp (F : Hp) : V → D → Prop
  | non : Rp F .non .none
  | bl (b : Bool) : Rp F (.bl b) (.bool b)
  | int (i : Int) : Rp F (.int i) (.int i)
  | str (x : Str) : Rp F (.str x) (.str x)
  | lst {a : Addr} {xs : List V} {ds : List D} : F a = some (.lst xs) → RpA F xs ds → Rp F (.ref a) (.list ds)
  | tup {a : Addr} {xs : List V} {ds : List D} : Tz F a xs → RpA F xs ds → Rp F (.ref a) (.tuple ds)
inductive RpA (F : Hp) : List V → List D → Prop
  | nil : RpA F [] []
  | cons {v : V} {vs : List V} {d : D} {ds : List D} : Rp F v d → RpA F vs ds → RpA F (v :: vs) (d :: ds)
end
mutual
theorem Rp.mono {F F' : Hp} (e : Same F F') : ∀ (d : D) (v : V), Rp F v d → Rp F' v d
  | .none, _, h => by cases h; exact .non
  | .bool b, _, h => by cases h; exact .bl b
  | .int i, _, h => by cases h; exact .int i
  | .str x, _, h => by cases h; exact .str x
  | .list ds, _, h => by
    cases h with
    | lst h1 h2 => exact .lst (e _ _ h1) (RpA.mono e ds _ h2)
  | .tuple ds, _, h => by
    cases h with
    | tup h1 h2 => exact .tup (h1.up e) (RpA.mono e ds _ h2)
  | .dict _, _, h => by cases h
theorem RpA.mono {F F' : Hp} (e : Same F F') : ∀ (ds : List D) (vs : List V), RpA F vs ds → RpA F' vs ds
  | [], _, h => by cases h; exact .nil
  | d :: ds, _, h => by
    cases h with
    | cons h1 h2 => exact .cons (Rp.mono e d _ h1) (RpA.mono e ds _ h2)
end
theorem Rp.up {F F' : Hp} {d : D} {v : V} (h : Rp F v d) (e : Same F F') : Rp F' v d := Rp.mono e d v h
theorem RpA.up {F F' : Hp} {d : List D} {v : List V} (h : RpA F v d) (e : Same F F') : RpA F' v d := RpA.mono e d v h
mutual
theorem Rp.dp {K : Fr} {F : Hp} : ∀ (d : D) (v : V), Rp F v d → Dp K F v d
  | .none, _, h => by cases h; exact .non
  | .bool b, _, h => by cases h; exact .bl b
  | .int i, _, h => by cases h; exact .int i
  | .str x, _, h => by cases h; exact .str x
  | .list ds, _, h => by
    cases h with
    | lst h1 h2 => exact .lst (SqL.of h1) (RpA.dp ds _ h2)
  | .tuple ds, _, h => by
    cases h with
    | tup h1 h2 => exact .tup h1.sq (RpA.dp ds _ h2)
  | .dict _, _, h => by cases h
theorem RpA.dp {K : Fr} {F : Hp} : ∀ (ds : List D) (vs : List V), RpA F vs ds → DpAll K F vs ds
  | [], _, h => by cases h; exact .nil
  | d :: ds, _, h => by
    cases h with
    | cons h1 h2 => exact .cons (Rp.dp d _ h1) (RpA.dp ds _ h2)
end
section
variable {F : Hp} {vs ws : List V} {ds es : List D}
theorem RpA.length : ∀ {vs : List V} {ds : List D}, RpA F vs ds → vs.length = ds.length
  | _, _, .nil => rfl
  | _, _, .cons _ t => by simp [RpA.length t]
theorem RpA.append : ∀ {vs ws : List V} {ds es : List D}, RpA F vs ds → RpA F ws es → RpA F (vs ++ ws) (ds ++ es)
  | _, _, _, _, .nil, h => h
  | _, _, _, _, .cons a t, h => .cons a (RpA.append t h)
theorem RpA.getd : ∀ {vs : List V} {ds : List D} {i : Nat} {d : D}, RpA F vs ds → ds[i]? = some d → ∃ v, vs[i]? = some v ∧ Rp F v d
  | _, _, _, _, .nil, h => by simp at h
  | _, _, 0, _, .cons a t, h => by simp at h; subst h; exact ⟨_, rfl, a⟩
  | _, _, i + 1, _, .cons a t, h => by
    obtain ⟨v, h1, h2⟩ := RpA.getd (i := i) t (by simpa using h)
    exact ⟨v, by simpa using h1, h2⟩
theorem RpA.getv : ∀ {vs : List V} {ds : List D} {i : Nat} {v : V}, RpA F vs ds → vs[i]? = some v → ∃ d, ds[i]? = some d ∧ Rp F v d
  | _, _, _, _, .nil, h => by simp at h
  | _, _, 0, _, .cons a t, h => by simp at h; subst h; exact ⟨_, rfl, a⟩
  | _, _, i + 1, _, .cons a t, h => by
    obtain ⟨v, h1, h2⟩ := RpA.getv (i := i) t (by simpa using h)
    exact ⟨v, by simpa using h1, h2⟩
theorem RpA.set : ∀ {vs : List V} {ds : List D} (i : Nat) {v : V} {d : D}, Rp F v d → RpA F vs ds → RpA F (vs.set i v) (ds.set i d)
  | _, _, _, _, _, _, .nil => .nil
  | _, _, 0, _, _, r, .cons a t => .cons r t
  | _, _, i + 1, _, _, r, .cons a t => .cons a (RpA.set i r t)
theorem RpA.take : ∀ {vs : List V} {ds : List D} (n : Nat), RpA F vs ds → RpA F (vs.take n) (ds.take n)
  | _, _, 0, _ => .nil
  | _, _, _ + 1, .nil => .nil
  | _, _, n + 1, .cons a t => .cons a (RpA.take n t)
theorem RpA.drop : ∀ {vs : List V} {ds : List D} (n : Nat), RpA F vs ds → RpA F (vs.drop n) (ds.drop n)
  | _, _, 0, r => r
  | _, _, _ + 1, .nil => .nil
  | _, _, n + 1, .cons _ t => RpA.drop n t
theorem RpA.dropLast (h : RpA F vs ds) : RpA F vs.dropLast ds.dropLast := by
  rw [List.dropLast_eq_take, List.dropLast_eq_take, h.length]
  exact h.take _
theorem RpA.reverse : ∀ {vs : List V} {ds : List D}, RpA F vs ds → RpA F vs.reverse ds.reverse
  | _, _, .nil => .nil
  | _, _, .cons a t => by
    rw [List.reverse_cons, List.reverse_cons]
    exact (RpA.reverse t).append (.cons a .nil)
theorem RpA.rep (h : RpA F vs ds) : ∀ k : Nat, RpA F (List.replicate k vs).flatten (List.replicate k ds).flatten
  | 0 => .nil
  | k + 1 => by
    rw [List.replicate_succ, List.replicate_succ, List.flatten_cons, List.flatten_cons]
    exact h.append (RpA.rep h k)
theorem RpA.last (h : RpA F vs ds) {d : D} (e : ds.getLast? = some d) : ∃ v, vs[vs.length - 1]? = some v ∧ Rp F v d := by
  rw [List.getLast?_eq_getElem?] at e
  rw [h.length]
  exact h.getd e
theorem RpA.isEmpty : RpA F vs ds → vs.isEmpty = ds.isEmpty
  | .nil => rfl
  | .cons _ _ => rfl
theorem RpA.ofInts : ∀ ns : List Int, RpA F (ns.map V.int) (ns.map PyData.int)
  | [] => .nil
  | n :: ns => .cons (.int n) (RpA.ofInts ns)
theorem RpA.ints : ∀ {ns : List Int} {vs : List V}, RpA F vs (ns.map PyData.int) → vs = ns.map V.int
  | [], _, h => by cases h; rfl
  | n :: ns, _, h => by
    cases h with
    | cons h1 h2 => cases h1; rw [RpA.ints h2]; rfl
theorem RpA.bools : ∀ {ns : List Bool} {vs : List V}, RpA F vs (ns.map PyData.bool) → vs = ns.map V.bl
  | [], _, h => by cases h; rfl
  | n :: ns, _, h => by
    cases h with
    | cons h1 h2 => cases h1; rw [RpA.bools h2]; rfl
end
/-! ### things of one's own with parts -/
mutual
/-- the addresses of a thing and of its parts -/
def foot (H : Hp) : Ob → V → List Addr
  | .fz _, _ => []
  | .fl _, v => match v with
    | .ref a => [a]
    | _ => []
  | .ls its, v => match v with
    | .ref a => a :: (match H a with
      | some (.lst vs) => footA H its vs
      | _ => [])
    | _ => []
  | .tp its, v => match v with
    | .ref a => a :: (match H a with
      | some (.frz _ (.tup vs)) => footA H its vs
      | _ => [])
    | _ => []
  | .dc _, v => match v with
    | .ref a => [a]
    | _ => []
def footA (H : Hp) : List Ob → List V → List Addr
  | o :: os, v :: vs => foot H o v ++ footA H os vs
  | _, _ => []
end
mutual
/-- a thing as it stands -/
def okO (F H : Hp) : Ob → V → Prop
  | .fz d, v => Rp F v d
  | .fl ds, v => ∃ a vs, v = V.ref a ∧ H a = some (.lst vs) ∧ F a = none ∧ RpA F vs ds
  | .ls its, v => ∃ a vs, v = V.ref a ∧ H a = some (.lst vs) ∧ F a = none ∧ okA F H its vs ∧ a ∉ footA H its vs
  | .tp its, v => ∃ a vs o, v = V.ref a ∧ H a = some (.frz o (.tup vs)) ∧ o.dict = none ∧ F a = none ∧ okA F H its vs ∧ a ∉ footA H its vs
  | .dc _, _ => False
def okA (F H : Hp) : List Ob → List V → Prop
  | [], [] => True
  | o :: os, v :: vs => okO F H o v ∧ okA F H os vs ∧ ∀ a ∈ foot H o v, a ∉ footA H os vs
  | _, _ => False
end
mutual
theorem foot_keep {H H' : Hp} : ∀ (o : Ob) (v : V), (∀ a ∈ foot H o v, H' a = H a) → foot H' o v = foot H o v
  | .fz _, _, _ => by simp only [foot]
  | .fl _, _, _ => by simp only [foot]
  | .dc _, _, _ => by simp only [foot]
  | .ls its, v, h => by
    cases v with
    | ref a =>
      simp only [foot] at h ⊢
      rw [h a List.mem_cons_self]
      split
      · rename_i vs e
        rw [footA_keep its vs fun b hb => h b (List.mem_cons_of_mem _ (by rw [e]; exact hb))]
      · rfl
    | _ => simp only [foot]
  | .tp its, v, h => by
    cases v with
    | ref a =>
      simp only [foot] at h ⊢
      rw [h a List.mem_cons_self]
      split
      · rename_i o vs e
        rw [footA_keep its vs fun b hb => h b (List.mem_cons_of_mem _ (by rw [e]; exact hb))]
      · rfl
    | _ => simp only [foot]
theorem footA_keep {H H' : Hp} : ∀ (os : List Ob) (vs : List V), (∀ a ∈ footA H os vs, H' a = H a) → footA H' os vs = footA H os vs
  | [], _, _ => by simp only [footA]
  | _ :: _, [], _ => by simp only [footA]
  | o :: os, v :: vs, h => by
    simp only [footA] at h ⊢
    rw [foot_keep o v fun a ha => h a (List.mem_append_left _ ha), footA_keep os vs fun a ha => h a (List.mem_append_right _ ha)]
end
mutual
theorem okO_keep {F F' H H' : Hp} (s : Same F F') : ∀ (o : Ob) (v : V), okO F H o v → (∀ a ∈ foot H o v, H' a = H a ∧ F' a = none) → okO F' H' o v
  | .fz _, _, h, _ => by
    simp only [okO] at h ⊢
    exact h.up s
  | .fl _, v, h, k => by
    simp only [okO] at h ⊢
    obtain ⟨a, vs, rfl, h1, h2, h3⟩ := h
    simp only [foot] at k
    obtain ⟨k1, k2⟩ := k a List.mem_cons_self
    exact ⟨a, vs, rfl, k1.trans h1, k2, h3.up s⟩
  | .dc _, _, h, _ => by
    simp only [okO] at h
  | .ls its, v, h, k => by
    simp only [okO] at h ⊢
    obtain ⟨a, vs, rfl, h1, h2, h3, h4⟩ := h
    simp only [foot, h1] at k
    obtain ⟨k1, k2⟩ := k a List.mem_cons_self
    have k' : ∀ b ∈ footA H its vs, H' b = H b ∧ F' b = none := fun b hb => k b (List.mem_cons_of_mem _ hb)
    refine ⟨a, vs, rfl, k1.trans h1, k2, okA_keep s its vs h3 k', ?_⟩
    rw [footA_keep its vs fun b hb => (k' b hb).1]
    exact h4
  | .tp its, v, h, k => by
    simp only [okO] at h ⊢
    obtain ⟨a, vs, o, rfl, h1, ho, h2, h3, h4⟩ := h
    simp only [foot, h1] at k
    obtain ⟨k1, k2⟩ := k a List.mem_cons_self
    have k' : ∀ b ∈ footA H its vs, H' b = H b ∧ F' b = none := fun b hb => k b (List.mem_cons_of_mem _ hb)
    refine ⟨a, vs, o, rfl, k1.trans h1, ho, k2, okA_keep s its vs h3 k', ?_⟩
    rw [footA_keep its vs fun b hb => (k' b hb).1]
    exact h4
theorem okA_keep {F F' H H' : Hp} (s : Same F F') : ∀ (os : List Ob) (vs : List V), okA F H os vs → (∀ a ∈ footA H os vs, H' a = H a ∧ F' a = none) → okA F' H' os vs
  | [], [], _, _ => by simp only [okA]
  | [], _ :: _, h, _ => by simp only [okA] at h
  | _ :: _, [], h, _ => by simp only [okA] at h
  | o :: os, v :: vs, h, k => by
    simp only [okA] at h ⊢
    obtain ⟨h1, h2, h3⟩ := h
    simp only [footA] at k
    have k1 : ∀ a ∈ foot H o v, H' a = H a ∧ F' a = none := fun a ha => k a (List.mem_append_left _ ha)
    have k2 : ∀ a ∈ footA H os vs, H' a = H a ∧ F' a = none := fun a ha => k a (List.mem_append_right _ ha)
    refine ⟨okO_keep s o v h1 k1, okA_keep s os vs h2 k2, ?_⟩
    rw [foot_keep o v fun a ha => (k1 a ha).1, footA_keep os vs fun a ha => (k2 a ha).1]
    exact h3
end
mutual
/-- its addresses are taken, and not frozen -/
theorem okO_at {F H : Hp} : ∀ (o : Ob) (v : V), okO F H o v → ∀ a ∈ foot H o v, H a ≠ none ∧ F a = none
  | .fz _, _, _, a, m => by simp only [foot] at m; exact absurd m (List.not_mem_nil)
  | .dc _, _, h, _, _ => by simp only [okO] at h
  | .fl _, v, h, b, m => by
    simp only [okO] at h
    obtain ⟨a, vs, rfl, h1, h2, h3⟩ := h
    simp only [foot, List.mem_singleton] at m
    subst m
    exact ⟨by rw [h1]; simp, h2⟩
  | .ls its, v, h, b, m => by
    simp only [okO] at h
    obtain ⟨a, vs, rfl, h1, h2, h3, h4⟩ := h
    simp only [foot, h1] at m
    rcases List.mem_cons.mp m with rfl | m
    · exact ⟨by rw [h1]; simp, h2⟩
    · exact okA_at its vs h3 b m
  | .tp its, v, h, b, m => by
    simp only [okO] at h
    obtain ⟨a, vs, o, rfl, h1, ho, h2, h3, h4⟩ := h
    simp only [foot, h1] at m
    rcases List.mem_cons.mp m with rfl | m
    · exact ⟨by rw [h1]; simp, h2⟩
    · exact okA_at its vs h3 b m
theorem okA_at {F H : Hp} : ∀ (os : List Ob) (vs : List V), okA F H os vs → ∀ a ∈ footA H os vs, H a ≠ none ∧ F a = none
  | [], _, _, a, m => by simp only [footA] at m; exact absurd m (List.not_mem_nil)
  | _ :: _, [], h, _, _ => by simp only [okA] at h
  | o :: os, v :: vs, h, a, m => by
    simp only [okA] at h
    simp only [footA] at m
    rcases List.mem_append.mp m with m | m
    · exact okO_at o v h.1 a m
    · exact okA_at os vs h.2.1 a m
end
/-! ### the state -/
/-- what is fixed in a def's body: the heap at its entry, what was frozen there, the lists that it may change and their slots -/
structure FC where
  H0 : Hp
  F0 : Hp
  Mu : List Addr
  mp : List Nat
  wx : WX
  cl : Str → Option Value
def NotNt (env : Env) (σ : St) (H : Hp) (a : Addr) : Prop := ∀ (j : Nat) (o : Ob) (v : V), env[j]? = some (.nt o) → σ[j]? = some (some v) → a ∉ foot H o v
/-- no slot's own thing stands there -/
structure NotOw (env : Env) (σ : St) (H : Hp) (a : Addr) : Prop where
  ow : ∀ (j : Nat) (ds : List D), env[j]? = some (.ow ds) → σ[j]? ≠ some (some (V.ref a))
  nt : NotNt env σ H a
def KP (K : Fr) (a : Addr) (xs : List V) : Prop := ∃ (o : Obj) (its : Array Value) (n : Nat), K.lookup a = some o ∧ o.cls = .type "list" ∧ o.dict = none ∧ o.data = .seq its n ∧ its.size ≤ sizeLine ∧ Vals xs its.toList
/-- the script, as it is handed on -/
def ScR (K : Fr) (H : Hp) (Mu : List Addr) (a : Addr) (xs : List V) : Prop := (Rd H a (.lst xs) ∧ a ∉ Mu) ∨ KP K a xs
structure Hd (K : Fr) (C : FC) (F : Hp) (env : Env) (σ : St) (H : Hp) : Prop where
  ex : Same F H
  len : env.length = σ.length
  fz : ∀ (i : Nat) (d : D), env[i]? = some (.fz d) → ∃ v, σ[i]? = some (some v) ∧ Rp F v d
  ow : ∀ (i : Nat) (ds : List D), env[i]? = some (.ow ds) → ∃ a vs, σ[i]? = some (some (V.ref a)) ∧ H a = some (.lst vs) ∧ F a = none ∧ RpA F vs ds ∧ (C.H0 a = none ∨ a ∈ C.Mu)
  bw : ∀ (i : Nat) (ds : List D), env[i]? = some (.bw ds) → ∃ a vs, σ[i]? = some (some (V.ref a)) ∧ C.H0 a = some (.lst vs) ∧ a ∉ C.Mu ∧ RpA F vs ds
  sc : ∀ (i : Nat) (ds : List D), env[i]? = some (.sc ds) → ∃ (a : Addr) (ns : List Int), σ[i]? = some (some (V.ref a)) ∧ ds = ns.map PyData.int ∧ ScR K C.H0 C.Mu a (ns.map V.int)
  inj : ∀ (i j : Nat) (ds es : List D) (a : Addr), env[i]? = some (.ow ds) → env[j]? = some (.ow es) → σ[i]? = some (some (V.ref a)) → σ[j]? = some (some (V.ref a)) → i = j
  keep : ∀ a o, C.H0 a = some o → a ∉ C.Mu → H a = some o
  old : ∀ a, H a = none → C.H0 a = none
  dom : ∀ a, F a ≠ none → C.F0 a ≠ none ∨ C.H0 a = none ∨ a ∈ C.Mu
  mps : ∀ (k i : Nat) (a : Addr), C.mp[k]? = some i → C.Mu[k]? = some a → σ[i]? = some (some (V.ref a))
  nt : ∀ (i : Nat) (o : Ob), env[i]? = some (.nt o) → ∃ v, σ[i]? = some (some v) ∧ okO F H o v ∧ ∀ a ∈ foot H o v, C.H0 a = none ∨ a ∈ C.Mu
  ntj : ∀ (i j : Nat) (o o' : Ob) (v v' : V) (a : Addr), env[i]? = some (.nt o) → env[j]? = some (.nt o') → σ[i]? = some (some v) → σ[j]? = some (some v') → a ∈ foot H o v → a ∈ foot H o' v' → i = j
  nto : ∀ (i j : Nat) (o : Ob) (ds : List D) (v : V) (a : Addr), env[i]? = some (.nt o) → env[j]? = some (.ow ds) → σ[i]? = some (some v) → σ[j]? = some (some (V.ref a)) → a ∉ foot H o v
structure Stp (F : Hp) (env : Env) (σ : St) (H : Hp) (F' : Hp) (env' : Env) (H' : Hp) : Prop where
  exF : Same F F'
  tmp : ∀ a o, F a = none → H a = some o → NotOw env σ H a → F' a = none ∧ H' a = some o
  sub : ∀ (i : Nat) (ds : List D), env'[i]? = some (.ow ds) → ∃ es, env[i]? = some (.ow es)
  old : ∀ a, H' a = none → H a = none
  subN : ∀ (i : Nat) (o : Ob), env'[i]? = some (.nt o) → ∃ o', env[i]? = some (.nt o') ∧ ∀ (v : V) (a : Addr), σ[i]? = some (some v) → a ∈ foot H' o v → H a ≠ none → a ∈ foot H o' v
theorem Stp.refl {F : Hp} {env : Env} {σ : St} {H : Hp} : Stp F env σ H F env H := ⟨Same.refl F, fun a o h1 h2 _ => ⟨h1, h2⟩, fun i ds h => ⟨ds, h⟩, fun _ h => h, fun i o h => ⟨o, h, fun v a _ m _ => m⟩⟩
theorem NotOw.stp {F : Hp} {env : Env} {σ : St} {H F' : Hp} {env' : Env} {H' : Hp} {a : Addr} (n : NotOw env σ H a) (s : Stp F env σ H F' env' H') (ha : H a ≠ none) : NotOw env' σ H' a := ⟨fun j ds h => by
  obtain ⟨es, h'⟩ := s.sub j ds h
  exact n.ow j es h', fun j o v h1 h2 m => by
  obtain ⟨o', h3, h4⟩ := s.subN j o h1
  exact n.nt j o' v h3 h2 (h4 v a h2 m ha)⟩
theorem some_ne {o : HO} {x : Option HO} (h : x = some o) : x ≠ none := by rw [h]; simp
theorem Stp.trans {F : Hp} {env : Env} {σ : St} {H F1 : Hp} {env1 : Env} {H1 F2 : Hp} {env2 : Env} {H2 : Hp} (a : Stp F env σ H F1 env1 H1) (b : Stp F1 env1 σ H1 F2 env2 H2) : Stp F env σ H F2 env2 H2 :=
  ⟨a.exF.trans b.exF, fun x o h1 h2 n => by
    obtain ⟨q1, q2⟩ := a.tmp x o h1 h2 n
    exact b.tmp x o q1 q2 (n.stp a (some_ne h2)), fun i ds h => by
    obtain ⟨es, h1⟩ := b.sub i ds h
    exact a.sub i es h1, fun x h => a.old x (b.old x h), fun i o h1 => by
    obtain ⟨o', h3, h4⟩ := b.subN i o h1
    obtain ⟨o2, h5, h6⟩ := a.subN i o' h3
    exact ⟨o2, h5, fun v x z m hx => h6 v x z (h4 v x z m fun w => hx (a.old x w)) hx⟩⟩
/-- a result's value -/
def RVR (Hs F : Hp) (env : Env) (σ : St) (H : Hp) : RV → V → Prop
  | .fz d, v => Rp F v d
  | .sl i, v => σ[i]? = some (some v)
  | .tm ds, v => ∃ a vs, v = V.ref a ∧ H a = some (.lst vs) ∧ F a = none ∧ RpA F vs ds ∧ Hs a = none ∧ NotOw env σ H a
  | .nt o, v => okO F H o v ∧ ∀ a ∈ foot H o v, Hs a = none ∧ NotOw env σ H a
theorem RVR.step {Hs F : Hp} {env : Env} {σ : St} {H F1 : Hp} {env1 : Env} {H1 : Hp} (s : Stp F env σ H F1 env1 H1) : ∀ {r : RV} {v : V}, RVR Hs F env σ H r v → RVR Hs F1 env1 σ H1 r v
  | .fz d, v, h => Rp.up (show Rp F v d from h) s.exF
  | .sl i, v, h => h
  | .tm ds, v, h => by
    obtain ⟨a, vs, e, h1, h2, h3, h4, h5⟩ := h
    obtain ⟨q1, q2⟩ := s.tmp a _ h2 h1 h5
    exact ⟨a, vs, e, q2, q1, h3.up s.exF, h4, h5.stp s (some_ne h1)⟩
  | .nt o, v, h => by
    obtain ⟨h1, h2⟩ := h
    have k : ∀ a ∈ foot H o v, H1 a = H a ∧ F1 a = none := fun a m => by
      obtain ⟨z1, z2⟩ := okO_at o v h1 a m
      cases e : H a with
      | none => exact absurd e z1
      | some u =>
        obtain ⟨q1, q2⟩ := s.tmp a u z2 e (h2 a m).2
        exact ⟨q2, q1⟩
    refine ⟨okO_keep s.exF o v h1 k, fun a m => ?_⟩
    rw [foot_keep o v fun b hb => (k b hb).1] at m
    exact ⟨(h2 a m).1, (h2 a m).2.stp s (okO_at o v h1 a m).1⟩
/-- an expression's reading: what it computes, and a state that holds -/
def tJ (K : Fr) (C : FC) (f : M RV) : TE := fun σ H Q => ∃ F env r env', Hd K C F env σ H ∧ f env = some (r, env') ∧
  ∀ F' H' v, Stp F env σ H F' env' H' → Hd K C F' env' σ H' → RVR H F' env' σ H' r v → Q v H'
def ttJ (K : Fr) (C : FC) (f : M Bool) : TT := fun σ H Q => ∃ F env b env', Hd K C F env σ H ∧ f env = some (b, env') ∧
  ∀ F' H', Stp F env σ H F' env' H' → Hd K C F' env' σ H' → Q b H'
def taJ (K : Fr) (C : FC) (f : M (List D)) : TA := fun σ H Q => ∃ F env ds env', Hd K C F env σ H ∧ f env = some (ds, env') ∧
  ∀ F' H' vs, Stp F env σ H F' env' H' → Hd K C F' env' σ H' → RpA F' vs ds → Q vs H'
def toJ (K : Fr) (C : FC) (f : M (Option Int)) : TO := fun σ H Q => ∃ F env o env', Hd K C F env σ H ∧ f env = some (o, env') ∧
  ∀ F' H', Stp F env σ H F' env' H' → Hd K C F' env' σ H' → Q o H'
def RtR (C : FC) (F : Hp) (env : Env) (σ : St) (H : Hp) : Rt → V → Prop
  | .fz d, v => Rp F v d
  | .ow ds, v => ∃ a vs, v = V.ref a ∧ H a = some (.lst vs) ∧ F a = none ∧ RpA F vs ds ∧ (C.H0 a = none ∨ a ∈ C.Mu) ∧ NotOw env σ H a
  | .nt o, v => okO F H o v ∧ ∀ a ∈ foot H o v, (C.H0 a = none ∨ a ∈ C.Mu) ∧ NotOw env σ H a
def PostJ (K : Fr) (C : FC) (F0 : Hp) (D' : Ends) : Fl → Prop
  | .nx e => ∀ F σ H, Same F0 F → Hd K C F e σ H → D'.nx σ H
  | .bk e => ∀ F σ H, Same F0 F → Hd K C F e σ H → D'.bk σ H
  | .ct e => ∀ F σ H, Same F0 F → Hd K C F e σ H → D'.ct σ H
  | .rt r e => ∀ F σ H v, Same F0 F → Hd K C F e σ H → RtR C F e σ H r v → D'.rt v H
  | .ex c e => ∀ F σ H cls, Same F0 F → Hd K C F e σ H → C.cl c.nm = some cls → c.fs = [] → C.wx cls none σ H
theorem PostJ.up {K : Fr} {C : FC} {F0 F1 : Hp} {D' : Ends} (s : Same F0 F1) : ∀ {fl : Fl}, PostJ K C F0 D' fl → PostJ K C F1 D' fl
  | .nx _, q => fun F σ H s' => q F σ H (s.trans s')
  | .bk _, q => fun F σ H s' => q F σ H (s.trans s')
  | .ct _, q => fun F σ H s' => q F σ H (s.trans s')
  | .rt _ _, q => fun F σ H v s' => q F σ H v (s.trans s')
  | .ex _ _, q => fun F σ H v s' => q F σ H v (s.trans s')
def sJ (K : Fr) (C : FC) (f : SM) : TS := fun D' σ H => ∃ F env fl, Hd K C F env σ H ∧ f env = some fl ∧ PostJ K C F D' fl
def JE (X : Cx) (C : FC) (e : Expr) (f : M RV) : Prop := PE X e (tJ X.K C f)
def JT (X : Cx) (C : FC) (e : Expr) (f : M Bool) : Prop := PT X e (ttJ X.K C f)
def JW (X : Cx) (C : FC) (e : Expr) (f : M Bool) : Prop := PW X e (ttJ X.K C f)
def JA (X : Cx) (C : FC) (n : Nat) (es : List Expr) (f : M (List D)) : Prop := PA X es (taJ X.K C f) ∧ ∀ env ds env', f env = some (ds, env') → ds.length = n
def JO (X : Cx) (C : FC) (e : Option Expr) (f : M (Option Int)) : Prop := PO X e (toJ X.K C f)
def JS (X : Cx) (C : FC) (st : Stmt) (f : SM) : Prop := PS X st (sJ X.K C f)
def JSs (X : Cx) (C : FC) (st : List Stmt) (f : SM) : Prop := PSs X st (sJ X.K C f)
section
variable {X : Cx} {e : Expr} {es : List Expr} {st : Stmt} {sts : List Stmt} {o : Option Expr}
theorem pe_weak {t u : TE} (h : PE X e t) (w : ∀ σ H Q, u σ H Q → t σ H Q) : PE X e u := ⟨fun pins s σ H Q I q => h.run pins s σ H Q I (w σ H Q q)⟩
theorem pt_weak {t u : TT} (h : PT X e t) (w : ∀ σ H Q, u σ H Q → t σ H Q) : PT X e u := ⟨fun pins s σ H Q I q => h.run pins s σ H Q I (w σ H Q q)⟩
theorem pw_weak {t u : TT} (h : PW X e t) (w : ∀ σ H Q, u σ H Q → t σ H Q) : PW X e u := ⟨fun wh pins s σ H Q I q => h.run wh pins s σ H Q I (w σ H Q q)⟩
theorem pa_weak {t u : TA} (h : PA X es t) (w : ∀ σ H Q, u σ H Q → t σ H Q) : PA X es u := ⟨fun pos pins s σ H Q I q => h.run pos pins s σ H Q I (w σ H Q q)⟩
theorem ps_weak {t u : TS} (h : PS X st t) (w : ∀ D' σ H, u D' σ H → t D' σ H) : PS X st u := ⟨fun pins s σ H D' I q => h.run pins s σ H D' I (w D' σ H q)⟩
theorem pss_weak {t u : TS} (h : PSs X sts t) (w : ∀ D' σ H, u D' σ H → t D' σ H) : PSs X sts u := ⟨fun pins s σ H D' I q => h.run pins s σ H D' I (w D' σ H q)⟩
end
/-! ### freezing, storing -/
section
variable {K : Fr} {C : FC} {F F' : Hp} {env env' : Env} {σ : St} {H H' : Hp}
theorem set_get {α : Type} {l : List α} {i j : Nat} {x y : α} (h : (l.set i x)[j]? = some y) : (i = j ∧ y = x ∧ i < l.length) ∨ (i ≠ j ∧ l[j]? = some y) := by
  by_cases e : i = j
  · subst e
    by_cases hl : i < l.length
    · rw [List.getElem?_set_self hl] at h
      exact .inl ⟨rfl, (Option.some.inj h).symm, hl⟩
    · rw [List.getElem?_eq_none (by rw [List.length_set]; omega)] at h
      cases h
  · rw [List.getElem?_set_ne e] at h
    exact .inr ⟨e, h⟩
theorem same_upd {a : Addr} {o : HO} (h : F a = none) : Same F (upd F a o) := fun b u q => by
  rw [upd_ne (ne_of_none q h)]
  exact q
theorem upd_none {a b : Addr} {o : HO} (h : upd F a o b = none) : b ≠ a ∧ F b = none := by
  by_cases e : b = a
  · subst e; rw [upd_same] at h; cases h
  · rw [upd_ne e] at h; exact ⟨e, h⟩
theorem same_set {L : List Addr} (h : ∀ a ∈ L, F a = none) : Same F (fun a => if a ∈ L then H a else F a) := fun b u q => by
  show (if b ∈ L then H b else F b) = some u
  rw [if_neg fun m => by rw [h b m] at q; cases q]
  exact q
/-- things that are not frozen are frozen -/
theorem Hd.freezeL (h : Hd K C F env σ H) {L : List Addr} (hf : ∀ a ∈ L, F a = none) (ho : ∀ a ∈ L, C.H0 a = none ∨ a ∈ C.Mu) (hn : ∀ a ∈ L, NotOw env σ H a) : Hd K C (fun a => if a ∈ L then H a else F a) env σ H := by
  have s := same_set (H := H) hf
  refine ⟨fun b u q => ?_, h.len, fun i d q => ?_, fun i ds q => ?_, fun i ds q => ?_, h.sc, h.inj, h.keep, h.old, fun b q => ?_, h.mps, fun i o q => ?_, h.ntj, h.nto⟩
  · split at q
    · exact q
    · exact h.ex b u q
  · obtain ⟨v, h1, h2⟩ := h.fz i d q
    exact ⟨v, h1, h2.up s⟩
  · obtain ⟨b, ws, h1, h2, h3, h4, h5⟩ := h.ow i ds q
    refine ⟨b, ws, h1, h2, ?_, h4.up s, h5⟩
    rw [if_neg fun m => (hn b m).ow i ds q h1]; exact h3
  · obtain ⟨b, ws, h1, h2, h3, h4⟩ := h.bw i ds q
    exact ⟨b, ws, h1, h2, h3, h4.up s⟩
  · split at q
    · rename_i m
      exact .inr (ho b m)
    · exact h.dom b q
  · obtain ⟨v, h1, h2, h3⟩ := h.nt i o q
    refine ⟨v, h1, okO_keep s o v h2 fun b m => ⟨rfl, ?_⟩, h3⟩
    rw [if_neg fun m' => (hn b m').nt i o v q h1 m]
    exact (okO_at o v h2 b m).2
mutual
theorem okO_frz {F F' H : Hp} (s : Same F F') : ∀ (o : Ob) (v : V), okO F H o v → (∀ a ∈ foot H o v, F' a = H a) → Rp F' v (er o)
  | .fz _, _, h, _ => by
    simp only [okO] at h
    simp only [er]
    exact h.up s
  | .dc _, _, h, _ => by simp only [okO] at h
  | .fl _, v, h, k => by
    simp only [okO] at h
    obtain ⟨a, vs, rfl, h1, h2, h3⟩ := h
    simp only [er]
    exact .lst ((k a (by simp [foot])).trans h1) (h3.up s)
  | .ls its, v, h, k => by
    simp only [okO] at h
    obtain ⟨a, vs, rfl, h1, h2, h3, h4⟩ := h
    simp only [foot, h1] at k
    simp only [er]
    exact .lst ((k a List.mem_cons_self).trans h1) (okA_frz s its vs h3 fun b hb => k b (List.mem_cons_of_mem _ hb))
  | .tp its, v, h, k => by
    simp only [okO] at h
    obtain ⟨a, vs, o, rfl, h1, ho, h2, h3, h4⟩ := h
    simp only [foot, h1] at k
    simp only [er]
    exact .tup ⟨o, (k a List.mem_cons_self).trans h1, ho⟩ (okA_frz s its vs h3 fun b hb => k b (List.mem_cons_of_mem _ hb))
theorem okA_frz {F F' H : Hp} (s : Same F F') : ∀ (os : List Ob) (vs : List V), okA F H os vs → (∀ a ∈ footA H os vs, F' a = H a) → RpA F' vs (erA os)
  | [], [], _, _ => by simp only [erA]; exact .nil
  | [], _ :: _, h, _ => by simp only [okA] at h
  | _ :: _, [], h, _ => by simp only [okA] at h
  | o :: os, v :: vs, h, k => by
    simp only [okA] at h
    simp only [footA] at k
    simp only [erA]
    exact .cons (okO_frz s o v h.1 fun a ha => k a (List.mem_append_left _ ha)) (okA_frz s os vs h.2.1 fun a ha => k a (List.mem_append_right _ ha))
end
/-- a list that is not frozen is frozen -/
theorem Hd.freeze (h : Hd K C F env σ H) {a : Addr} {vs : List V} (ha : H a = some (.lst vs)) (hf : F a = none) (ho : C.H0 a = none ∨ a ∈ C.Mu) (hn : NotOw env σ H a) : Hd K C (upd F a (.lst vs)) env σ H := by
  have s := same_upd (o := .lst vs) hf
  refine ⟨fun b u q => ?_, h.len, fun i d q => ?_, fun i ds q => ?_, fun i ds q => ?_, h.sc, h.inj, h.keep, h.old, fun b q => ?_, h.mps, fun i o q => ?_, h.ntj, h.nto⟩
  · by_cases e : b = a
    · subst e; rw [upd_same] at q; cases q; exact ha
    · rw [upd_ne e] at q; exact h.ex b u q
  · obtain ⟨v, h1, h2⟩ := h.fz i d q
    exact ⟨v, h1, h2.up s⟩
  · obtain ⟨b, ws, h1, h2, h3, h4, h5⟩ := h.ow i ds q
    refine ⟨b, ws, h1, h2, ?_, h4.up s, h5⟩
    have e : b ≠ a := fun e => hn.ow i ds q (by rw [← e]; exact h1)
    rw [upd_ne e]; exact h3
  · obtain ⟨b, ws, h1, h2, h3, h4⟩ := h.bw i ds q
    exact ⟨b, ws, h1, h2, h3, h4.up s⟩
  · by_cases e : b = a
    · subst e; exact .inr ho
    · rw [upd_ne e] at q; exact h.dom b q
  · obtain ⟨v, h1, h2, h3⟩ := h.nt i o q
    refine ⟨v, h1, okO_keep s o v h2 fun b m => ⟨rfl, ?_⟩, h3⟩
    rw [upd_ne fun e => hn.nt i o v q h1 (by rw [← e]; exact m)]
    exact (okO_at o v h2 b m).2
/-- a slot is forgotten or told less -/
theorem Hd.put (h : Hd K C F env σ H) {i : Nat} {x : Sl} (hx : ∀ ds, x ≠ .ow ds)
    (hf : ∀ d, x = .fz d → ∃ v, σ[i]? = some (some v) ∧ Rp F v d)
    (hb : ∀ ds, x ≠ .bw ds) (hs : ∀ ds, x ≠ .sc ds) (hnt : ∀ o, x ≠ .nt o := by intro _ z; cases z) : Hd K C F (env.set i x) σ H := by
  have gn : ∀ {j : Nat} {o : Ob}, (env.set i x)[j]? = some (.nt o) → env[j]? = some (.nt o) := fun {j o} q => by
    rcases set_get q with ⟨_, e2, _⟩ | ⟨_, q⟩
    · exact absurd e2.symm (hnt o)
    · exact q
  have go : ∀ {j : Nat} {o : List D}, (env.set i x)[j]? = some (.ow o) → env[j]? = some (.ow o) := fun {j o} q => by
    rcases set_get q with ⟨_, e2, _⟩ | ⟨_, q⟩
    · exact absurd e2.symm (hx o)
    · exact q
  refine ⟨h.ex, by rw [List.length_set]; exact h.len, fun j d q => ?_, fun j d q => ?_, fun j d q => ?_, fun j d q => ?_, fun j k ds es a q1 q2 => ?_, h.keep, h.old, h.dom, h.mps, fun j o q => h.nt j o (gn q), fun j k o o' v v' a q1 q2 => h.ntj j k o o' v v' a (gn q1) (gn q2), fun j k o ds v a q1 q2 => h.nto j k o ds v a (gn q1) (go q2)⟩
  · rcases set_get q with ⟨e, e2, _⟩ | ⟨_, q⟩
    · subst e; exact hf d e2.symm
    · exact h.fz j d q
  · rcases set_get q with ⟨e, e2, _⟩ | ⟨_, q⟩
    · exact absurd e2.symm (hx d)
    · exact h.ow j d q
  · rcases set_get q with ⟨e, e2, _⟩ | ⟨_, q⟩
    · exact absurd e2.symm (hb d)
    · exact h.bw j d q
  · rcases set_get q with ⟨e, e2, _⟩ | ⟨_, q⟩
    · exact absurd e2.symm (hs d)
    · exact h.sc j d q
  · rcases set_get q1 with ⟨_, e2, _⟩ | ⟨_, q1⟩
    · exact absurd e2.symm (hx ds)
    · rcases set_get q2 with ⟨_, e2, _⟩ | ⟨_, q2⟩
      · exact absurd e2.symm (hx es)
      · exact h.inj j k ds es a q1 q2
theorem sub_put {i : Nat} {x : Sl} (hx : ∀ ds, x ≠ .ow ds) : ∀ (j : Nat) (ds : List D), (env.set i x)[j]? = some (.ow ds) → ∃ es, env[j]? = some (.ow es) := fun j ds q => by
  rcases set_get q with ⟨_, e2, _⟩ | ⟨_, q⟩
  · exact absurd e2.symm (hx ds)
  · exact ⟨ds, q⟩
/-- a slot's own list is frozen -/
theorem Hd.frzSl (h : Hd K C F env σ H) {i : Nat} {ds : List D} (hi : env[i]? = some (.ow ds)) {v : V} (hv : σ[i]? = some (some v)) :
    ∃ F', Stp F env σ H F' (env.set i (.fz (.list ds))) H ∧ Hd K C F' (env.set i (.fz (.list ds))) σ H ∧ Rp F' v (.list ds) := by
  obtain ⟨a, vs, h1, h2, h3, h4, h5⟩ := h.ow i ds hi
  rw [hv] at h1
  cases h1
  have h' : Hd K C F (env.set i .no) σ H := h.put (fun _ z => nomatch z) (fun _ z => nomatch z) (fun _ z => nomatch z) fun _ z => nomatch z
  have gn : ∀ {x : Sl}, (∀ o, x ≠ .nt o) → ∀ {j : Nat} {o : Ob}, (env.set i x)[j]? = some (.nt o) → env[j]? = some (.nt o) := fun {x} hx {j o} q => by
    rcases set_get q with ⟨_, e2, _⟩ | ⟨_, q⟩
    · exact absurd e2.symm (hx o)
    · exact q
  have n : NotOw (env.set i .no) σ H a := ⟨fun j es q z => by
    rcases set_get q with ⟨_, e2, _⟩ | ⟨ne, q⟩
    · cases e2
    · exact ne (h.inj i j ds es a hi q hv z), fun j o w q1 q2 => h.nto j i o ds w a (gn (x := .no) (fun _ z => nomatch z) q1) hi q2 hv⟩
  have s := same_upd (o := .lst vs) h3
  have r : Rp (upd F a (.lst vs)) (V.ref a) (.list ds) := .lst upd_same (h4.up s)
  have h2' := (h'.freeze h2 h3 h5 n).put (i := i) (x := .fz (.list ds)) (fun _ z => nomatch z) (fun d z => by cases z; exact ⟨_, hv, r⟩) (fun _ z => nomatch z) fun _ z => nomatch z
  rw [List.set_set] at h2'
  refine ⟨upd F a (.lst vs), ⟨s, fun b o q1 q2 n => ⟨?_, q2⟩, sub_put (fun _ z => nomatch z), fun _ z => z, fun j o q1 => ⟨o, gn (x := .fz (.list ds)) (fun _ z => nomatch z) q1, fun w x _ q3 _ => q3⟩⟩, h2', r⟩
  have e : b ≠ a := fun e => n.ow i ds hi (by rw [e]; exact hv)
  rw [upd_ne e]; exact q1
/-- a slot's own thing with parts is frozen -/
theorem Hd.frzNt (h : Hd K C F env σ H) {i : Nat} {o : Ob} (hi : env[i]? = some (.nt o)) {v : V} (hv : σ[i]? = some (some v)) :
    ∃ F', Stp F env σ H F' (env.set i (.fz (er o))) H ∧ Hd K C F' (env.set i (.fz (er o))) σ H ∧ Rp F' v (er o) := by
  obtain ⟨v', h1, h2, h3⟩ := h.nt i o hi
  rw [hv] at h1
  cases h1
  have h' : Hd K C F (env.set i .no) σ H := h.put (fun _ z => nomatch z) (fun _ z => nomatch z) (fun _ z => nomatch z) fun _ z => nomatch z
  have gn : ∀ {x : Sl}, (∀ o, x ≠ .nt o) → ∀ {j : Nat} {o : Ob}, (env.set i x)[j]? = some (.nt o) → i ≠ j ∧ env[j]? = some (.nt o) := fun {x} hx {j o} q => by
    rcases set_get q with ⟨_, e2, _⟩ | ⟨ne, q⟩
    · exact absurd e2.symm (hx o)
    · exact ⟨ne, q⟩
  have n : ∀ a ∈ foot H o v, NotOw (env.set i .no) σ H a := fun a m => ⟨fun j es q z => by
    rcases set_get q with ⟨_, e2, _⟩ | ⟨ne, q⟩
    · cases e2
    · exact h.nto i j o es v a hi q hv z m, fun j o' w q1 q2 m' => by
    obtain ⟨ne, q1⟩ := gn (x := .no) (fun _ z => nomatch z) q1
    exact ne (h.ntj i j o o' v w a hi q1 hv q2 m m')⟩
  have hf : ∀ a ∈ foot H o v, F a = none := fun a m => (okO_at o v h2 a m).2
  have s := same_set (H := H) hf
  have r : Rp (fun a => if a ∈ foot H o v then H a else F a) v (er o) := okO_frz s o v h2 fun a m => by
    show (if a ∈ foot H o v then H a else F a) = H a
    rw [if_pos m]
  have h2' := (h'.freezeL hf h3 n).put (i := i) (x := .fz (er o)) (fun _ z => nomatch z) (fun d z => by cases z; exact ⟨_, hv, r⟩) (fun _ z => nomatch z) fun _ z => nomatch z
  rw [List.set_set] at h2'
  refine ⟨_, ⟨s, fun b u q1 q2 n => ⟨?_, q2⟩, sub_put (fun _ z => nomatch z), fun _ z => z, fun j o' q1 => ⟨o', (gn (x := .fz (er o)) (fun _ z => nomatch z) q1).2, fun w x _ q3 _ => q3⟩⟩, h2', r⟩
  show (if b ∈ foot H o v then H b else F b) = none
  rw [if_neg (n.nt i o v hi hv)]
  exact q1
/-- forgetting where a fresh list began -/
theorem RVR.back {Hs Hs' : Hp} (o : ∀ a, Hs' a = none → Hs a = none) : ∀ {r : RV} {v : V}, RVR Hs' F env σ H r v → RVR Hs F env σ H r v
  | .fz d, v, h => h
  | .sl i, v, h => h
  | .tm ds, v, h => by
    obtain ⟨a, vs, e, h1, h2, h3, h4, h5⟩ := h
    exact ⟨a, vs, e, h1, h2, h3, o a h4, h5⟩
  | .nt ob, v, h => ⟨h.1, fun a m => ⟨o a (h.2 a m).1, (h.2 a m).2⟩⟩
theorem Hd.fzv {F0 Hs : Hp} {env0 : Env} (h : Hd K C F env σ H) (h0 : Hd K C F0 env0 σ Hs) (s : Stp F0 env0 σ Hs F env H) {r : RV} {v : V} (hr : RVR Hs F env σ H r v) {d : D} (hd : fzv env r = some (d, env')) :
    ∃ F', Stp F0 env0 σ Hs F' env' H ∧ Hd K C F' env' σ H ∧ Rp F' v d ∧ Same F F' := by
  cases r with
  | fz d' => simp at hd; obtain ⟨rfl, rfl⟩ := hd; exact ⟨F, s, h, hr, Same.refl F⟩
  | tm ds =>
    simp at hd; obtain ⟨rfl, rfl⟩ := hd
    obtain ⟨a, vs, rfl, h1, h2, h3, h4, h5⟩ := hr
    have sm := same_upd (o := .lst vs) h2
    have fr := h.freeze h1 h2 (.inl (h0.old a h4)) h5
    refine ⟨upd F a (.lst vs), ⟨s.exF.trans sm, fun b o q1 q2 n => ?_, s.sub, s.old, s.subN⟩, fr, .lst upd_same (h3.up sm), sm⟩
    obtain ⟨p1, p2⟩ := s.tmp b o q1 q2 n
    have e : b ≠ a := ne_of_none q2 h4
    exact ⟨by rw [upd_ne e]; exact p1, p2⟩
  | nt o =>
    simp at hd; obtain ⟨rfl, rfl⟩ := hd
    obtain ⟨h1, h2⟩ := hr
    have hf : ∀ a ∈ foot H o v, F a = none := fun a m => (okO_at o v h1 a m).2
    have sm := same_set (H := H) hf
    have fr := h.freezeL hf (fun a m => .inl (h0.old a (h2 a m).1)) fun a m => (h2 a m).2
    refine ⟨_, ⟨s.exF.trans sm, fun b u q1 q2 n => ?_, s.sub, s.old, s.subN⟩, fr, okO_frz sm o v h1 fun a m => ?_, sm⟩
    · obtain ⟨p1, p2⟩ := s.tmp b u q1 q2 n
      refine ⟨?_, p2⟩
      show (if b ∈ foot H o v then H b else F b) = none
      rw [if_neg fun m => by rw [(h2 b m).1] at q2; cases q2]
      exact p1
    · show (if a ∈ foot H o v then H a else F a) = H a
      rw [if_pos m]
  | sl i =>
    have hv : σ[i]? = some (some v) := hr
    simp only [J.fzv] at hd
    split at hd
    · rename_i d' q
      cases hd
      obtain ⟨w, h1, h2⟩ := h.fz i _ q
      rw [hv] at h1; cases h1
      exact ⟨F, s, h, h2, Same.refl F⟩
    · rename_i ds q
      cases hd
      obtain ⟨F', s', h', r'⟩ := h.frzSl q hv
      exact ⟨F', s.trans s', h', r', s'.exF⟩
    · rename_i o q
      cases hd
      obtain ⟨F', s', h', r'⟩ := h.frzNt q hv
      exact ⟨F', s.trans s', h', r', s'.exF⟩
    · cases hd
end
end J
/-! JZ: rules that lay a tuple and tell that it has no dict of its own; t.count(x). -/
namespace J
open PySem L2 PySem.Spec PyProof.Rows
section
variable {X : Cx} {pins : List (Addr × Obj)} {σ : L2.St} {H : Hp} {s : Shared} {Q : VK}
/-- what is asked of a tuple that is laid -/
def LaysT (H : Hp) (xs : List V) (Q : VK) : Prop := ∀ (p : Addr) (o : Obj), H p = none → o.dict = none → Q (.ref p) (upd H p (.frz o (.tup xs)))
theorem okZ {P : Program} {w : World} {H' : Hp} {h : Heap} {xs : List V} {its : List Value} (hz : xs.length ≤ sizeLine) (r : Vals xs its) :
    ObjOk P w H' (h.push { cls := .type "tuple", data := .seq its.toArray }) h.objs.size (.frz { cls := .type "tuple", data := .seq its.toArray } (.tup xs)) :=
  ⟨Heap.get?_push_size _ rfl, hz, its, r, IsTup.new _ _⟩
theorem layZ {xs : List V} {its : List Value} {t : Nat} (I : Inv X pins σ H s) (hz : xs.length ≤ sizeLine) (r : Vals xs its) (q : LaysT H xs Q) :
    EP X pins σ Q (.ref s.heap.objs.size) { s with heap := s.heap.push { cls := .type "tuple", data := .seq its.toArray }, toks := t } :=
  ⟨.ref s.heap.objs.size, _, I.laid (t' := t) (fun b u e => Heap.get?_push_of_some _ e) (Nat.le_refl _) (okZ hz r), rfl, q _ _ (I.hok.fresh (Nat.le_refl _)) rfl⟩
variable {es : List Expr} {e a : Expr} {t : TA} {ta : TE} {pos p : Pos}
def tTupZ (t : TA) : TE := fun σ H Q => t σ H fun xs H1 => xs.length ≤ sizeLine ∧ LaysT H1 xs Q
theorem pe_tupZ {x1} (h : PA X es t) : PE X (.Tuple es x1 pos) (tTupZ t) := by
  refine ⟨fun pins s σ H Q I hq => ?_⟩
  exact wpAny_Tuple_spliced (thn (h.run pos pins s σ H _ I hq) fun us s1 ⟨xs, H1, I1, r, z, q⟩ => ⟨by rw [← r.length]; exact z, layZ I1 z r q⟩)
def rSlZ (K : Fr) : V → Option Int → Option Int → Hp → VK → Prop := fun x lo hi H Q => ∃ a xs, x = .ref a ∧ SqT K H a xs ∧
  ¬ (HT.sIx xs.length 0 lo = 0 ∧ HT.sIx xs.length xs.length hi = xs.length) ∧ LaysT H (cutV xs lo hi) Q
theorem sl_tupZ : SlR X (rSlZ X.K) := by
  intro pins s σ H x v vl vu lo hi sl Q I rx hs pl pu h
  obtain ⟨a, xs, rfl, hx, hw, q⟩ := h
  cases rx
  obtain ⟨its, r, ht, hz⟩ := I.tuple hx
  have hlen : its.toArray.size = xs.length := by rw [List.size_toArray]; exact r.length.symm
  refine ⟨"tuple", _, PyProof.Rows.slot_tuple_getitem.lookup, ht.typeIs, ?_⟩
  refine HT.getItem_tuple_cut ht hs pl pu (by rw [hlen]; exact hw) ?_ (by rw [hlen]; exact hz)
  rw [hlen]
  exact layZ I (Nat.le_trans (cutV_length xs lo hi) hz) ((r.drop (HT.sIx xs.length 0 lo)).take (HT.sIx xs.length xs.length hi - HT.sIx xs.length 0 lo)) q
theorem getItem_tuple_all {prog : Program} {w : World} {A : Around} {E : Value → Shared → Prop} {s : Shared} {t sl : Addr} {items : Array Value} {vl vu : Value} {lo hi : Option Int} {Q : Value → Shared → Prop} (ht : IsTup s.heap t items) (hs : s.heap.IsSliceOf sl vl vu .none) (pl : IsPart vl lo) (pu : IsPart vu hi)
    (hw : HT.sIx items.size 0 lo = 0 ∧ HT.sIx items.size items.size hi = items.size) (h : Q (.ref t) s) : wpAny (model prog w) A (getItem (.ref t) (.ref sl)) Q E s := by
  obtain ⟨os, hos, hcs, hds⟩ := id hs
  have hTs : s.TypeIs (.ref sl) "slice" := ⟨os, hos, hcs⟩
  unfold getItem
  try with_reducible refine wpAny_holding ?_
  first | refine wpAny_bind (wpAny_pure ?_) | skip
  refine wpAny_bind (wpAny_sequenceKey ht.typeIs (by decide) ?_)
  refine wpAny_bind (wpAny_callSpecial?_slot (name := Str.ofString "__getitem__") ht.typeIs PyProof.Rows.slot_tuple_getitem
    (wpAny_call_entry PyProof.Rows.slot_tuple_getitem ht.typeIs entry_tuple_getitem ?_ (args_tuple_getitem _ _)))
  show wpAny _ _ (Builtin.Tuple.tupleItemsOf (.ref t) >>= _) _ _ s
  refine wpAny_bind (tupleItemsOf_ ht ?_)
  refine wpAny_bind (wpAny_typeOf hTs ?_)
  rw [if_pos (by decide)]
  refine wpAny_bind (HT.sliceApplied_gen hs pl pu ?_)
  have hyes : (((HT.sIx items.size 0 lo : Nat) : Int) == 0 && (1 : Int) == 1 && (HT.sIx items.size items.size hi - HT.sIx items.size 0 lo) == items.size) = true := by
    rw [hw.1, hw.2]
    simp
  show wpAny _ _ (if (((HT.sIx items.size 0 lo : Nat) : Int) == 0 && (1 : Int) == 1 && (HT.sIx items.size items.size hi - HT.sIx items.size 0 lo) == items.size) = true then _ else _) _ _ s
  rw [if_pos hyes]
  refine wpAny_bind ?_
  unfold Builtin.Tuple.tupleIsExact
  refine wpAny_bind (wpAny_typeOf ht.typeIs (wpAny_pure ?_))
  rw [if_pos (by decide)]
  refine wpAny_bind (wpAny_rule ?_)
  first
    | exact wpAny_pure ⟨_, rfl, wpAny_pure h⟩
    | exact wpAny_bind (wpAny_pure (wpAny_pure ⟨_, rfl, wpAny_pure h⟩))
    | exact wpAny_bind (wpAny_pure (wpAny_pure (wpAny_pure ⟨_, rfl, wpAny_pure h⟩)))
    | exact wpAny_pure (wpAny_pure ⟨_, rfl, wpAny_pure h⟩)
def rSlW (K : Fr) : V → Option Int → Option Int → Hp → VK → Prop := fun x lo hi H Q => ∃ a xs, x = .ref a ∧ SqT K H a xs ∧
  (HT.sIx xs.length 0 lo = 0 ∧ HT.sIx xs.length xs.length hi = xs.length) ∧ Q (.ref a) H
theorem sl_tupW : SlR X (rSlW X.K) := by
  intro pins s σ H x v vl vu lo hi sl Q I rx hs pl pu h
  obtain ⟨a, xs, rfl, hx, hw, q⟩ := h
  cases rx
  obtain ⟨its, r, ht, hz⟩ := I.tuple hx
  have hlen : its.toArray.size = xs.length := by rw [List.size_toArray]; exact r.length.symm
  refine ⟨"tuple", _, PyProof.Rows.slot_tuple_getitem.lookup, ht.typeIs, ?_⟩
  exact getItem_tuple_all ht hs pl pu (by rw [hlen]; exact hw) ⟨.ref a, H, I, rfl, q⟩
def rCatZ (K : Fr) : R2 := fun x y H Q => ∃ a b xs ys, x = .ref a ∧ y = .ref b ∧ SqT K H a xs ∧ SqT K H b ys ∧ xs ≠ [] ∧ xs.length + ys.length ≤ sizeLine ∧
  (ys = [] → Q (.ref a) H) ∧ (ys ≠ [] → LaysT H (xs ++ ys) Q)
theorem op_catZ : OpR X (binaryOp .Add) (rCatZ X.K) := by
  intro pins s σ H x y v u Q I rx ry h
  obtain ⟨a, b, xs, ys, rfl, rfl, ha, hb, hx, hz, q1, q2⟩ := h
  cases rx
  cases ry
  obtain ⟨its, r1, p1, _⟩ := I.tuple ha
  obtain ⟨its2, r2, p2, _⟩ := I.tuple hb
  exact HT.cat_tup p1 p2 (fun z => hx (r1.nil_iff.mp z)) (fun z => ⟨.ref a, H, I, rfl, q1 (r2.nil_iff.mp z)⟩) (fun z => layZ (t := s.toks) I (by rw [List.length_append]; exact hz) (r1.append r2) (q2 fun w => z (r2.nil_iff.mpr w))) (by rw [← r1.length, ← r2.length]; exact hz)
theorem call_tupleZ : CallR X (.type "tuple") (fun xs H Q => ∃ p ys, xs = [.ref p] ∧ ((SqL X.K H p ys ∧ LaysT H ys Q) ∨ (SqT X.K H p ys ∧ Q (.ref p) H))) := by
  intro pins s σ H xs us Q I r h
  obtain ⟨p, ys, rfl, h⟩ := h
  obtain ⟨u, rfl, rx⟩ := vals1 r
  cases rx
  rcases h with ⟨hq, q⟩ | ⟨hq, q⟩
  · obtain ⟨its, r', pl, hz⟩ := I.list hq
    have hlen := r'.length
    refine call_tuple_list pl.isList (fun h' kp => ?_) (by rw [List.size_toArray, ← hlen]; exact hz)
    exact layZ (s := { s with heap := h' }) (t := s.toks) (I.kept (t' := s.toks) kp) hz r' q
  · obtain ⟨its, r', pl, hz⟩ := I.tuple hq
    exact call_tuple_same pl ⟨.ref p, H, I, rfl, q⟩
/-! tuple(range(..)) -/
def cV (i c : Int) (n : Nat) : List V := (List.range n).map fun (k : Nat) => V.int (i + (k : Int) * c)
def PRgC (X : Cx) (e : Expr) (t : L2.St → Hp → (Int → Int → Nat → Hp → Prop) → Prop) : Prop :=
  ∀ (pins : List (Addr × Obj)) (s : Shared) (σ : L2.St) (H : Hp) (Q : Int → Int → Nat → Hp → Prop), Inv X pins σ H s → t σ H Q →
    wpAny (model X.prog X.w) X.A (eval e X.env) (fun x s' => ∃ (r : Addr) (i j c : Int) (n : Nat) (u v w : Tok) (H' : Hp), x = .ref r ∧ IsRange s'.heap r i j c u v w ∧ Builtin.Range.small i j c = true ∧ Builtin.Range.rangeSize i j c = n ∧ Inv X pins σ H' s' ∧ Q i c n H') X.xe s
theorem prgc_of {te : L2.St → Hp → (Int → Int → Hp → Prop) → Prop} (h : PRg X e te) : PRgC X e (fun σ H R => te σ H fun i j H1 => (-(2 ^ 62) ≤ i ∧ i < 2 ^ 62 ∧ -(2 ^ 62) ≤ j ∧ j < 2 ^ 62) ∧ R i 1 (j - i).toNat H1) := by
  intro pins s σ H Q I q
  refine thn (h pins s σ H _ I q) fun x s1 ⟨r, i, j, u, v, w, H1, ex, hr, I1, ⟨b1, b2, b3, b4⟩, q1⟩ => ?_
  exact ⟨r, i, j, 1, _, u, v, w, H1, ex, hr, small_one b1 b2 b3 b4, rangeSize_nat i j, I1, q1⟩
def tRg3 (t : TA) : L2.St → Hp → (Int → Int → Nat → Hp → Prop) → Prop := fun σ H R => t σ H fun vs H1 => ∃ (i j c : Int) (n : Nat), vs = [.int i, .int j, .int c] ∧ RgC i j c n ∧ R i c n H1
theorem prgc_3 {a b c : Expr} {t : TA} (hg : Gl X "range") (hm : X.mg "range" = none) (ha : PA X [a, b, c] t)
    (hs : starEach [a, b, c] X.env = (false, eval a X.env) :: starEach [b, c] X.env := by rfl) (hpl : (backTo pos (starEach [b, c] X.env)).any (·.1) = false := by rfl) : PRgC X (.Call (.Name "range" p) [a, b, c] [] pos) (tRg3 t) := by
  intro pins s σ H Q I h
  refine Call_ (ld_blt I hg hm boot_range (PyProof.Rows.callWith_type1 (thn (ha.run pos pins s σ H _ I h) fun us s1 ⟨vs, H1, I1, r1, q1⟩ => ?_) hs hpl))
  obtain ⟨i, j, k, n, e, ⟨c0, c1, c2, c3⟩, q⟩ := q1
  subst e
  cases r1 with
  | cons r rr =>
    cases rr with
    | cons r' rr =>
      cases rr with
      | cons r'' rr =>
        cases rr
        obtain ⟨t, rfl⟩ := r
        obtain ⟨t', rfl⟩ := r'
        obtain ⟨t'', rfl⟩ := r''
        refine call_range_3 c0 ?_ (.inl (PyProof.noPylong_small c1))
        exact ⟨_, i, j, k, n, _, _, _, H1, rfl, IsRange.new .., c2, c3, I1.kept (t' := s1.toks) fun b o e => Heap.get?_push_of_some _ e, q⟩
variable {te : L2.St → Hp → (Int → Int → Nat → Hp → Prop) → Prop}
def tTupRgC (te : L2.St → Hp → (Int → Int → Nat → Hp → Prop) → Prop) : TE := fun σ H Q => te σ H fun i c n H1 => n ≤ 2 ^ 24 ∧ LaysT H1 (cV i c n) Q
theorem pe_tupRgC (hc : X.calm = true) (hg : Gl X "tuple") (hm : X.mg "tuple" = none) (he : PRgC X e te) (na : starEach [e] X.env = (false, eval e X.env) :: starEach [] X.env := by rfl) : PE X (.Call (.Name "tuple" p) [e] [] pos) (tTupRgC te) := by
  refine ⟨fun pins s σ H Q I h => ?_⟩
  refine Call_ (ld_blt I hg hm boot_tuple (PyProof.Rows.callWith_type1 (args_cons (thn (he pins s σ H _ I h) fun x s1 ⟨r, i, j, c, n, u, v, w, H1, ex, hr, hsm, hn, I1, hz, q⟩ => args_nil ?_) na) na))
  subst ex
  refine call_tuple_range (I1.ok.hd hc) hr hsm hn hz fun h' tk acc hk hi => ?_
  have l : (cV i c n).length = n := by unfold cV; rw [List.length_map, List.length_range]
  have v : Vals (cV i c n) acc.toList := by
    refine vals_of_at (by rw [l, Array.length_toList]; exact hi.1.symm) fun k x u hx hu => ?_
    have hk : k < n := by
      have z := (List.getElem?_eq_some_iff.mp hx).1
      rw [l] at z
      exact z
    unfold cV at hx
    rw [List.getElem?_map, List.getElem?_range hk] at hx
    cases hx
    obtain ⟨t, rfl⟩ := hi.2 k u (by rw [← hu, Array.getElem?_toList])
    exact ⟨t, rfl⟩
  have z := layZ (X := X) (pins := pins) (σ := σ) (H := H1) (Q := Q) (s := { s1 with heap := h', toks := tk }) (t := tk) (I1.kept hk) (by rw [l, sizeLine_eq]; omega) v q
  rw [Array.toArray_toList] at z
  exact z
/-! t.count(x) -/
theorem cnt_eqU {x : V} : ∀ {xs : List V} {us : List Value}, Vals xs us → xs.all flatV = true → us.countP (eqU x) = xs.countP fun y => eqV y x
  | _, _, .nil, _ => rfl
  | y :: xs, u :: us, .cons r t, f => by
    rw [List.all_cons, Bool.and_eq_true] at f
    rw [List.countP_cons, List.countP_cons, eqU_of r f.1, cnt_eqU t f.2]
theorem slotT_count : Slot "tuple" "count" "tuple.count" := PySem.F.slot_tuple_count
def rCnt (H0 : Hp) : V → List V → Hp → VK → Prop := fun x vs H Q => ∃ a xs y, x = .ref a ∧ vs = [y] ∧ Tz H a xs ∧ xs.all flatV = true ∧ flatV y = true ∧ Q (.int ((xs.countP fun z => eqV z y : Nat) : Int)) H
theorem mt_count : MtR X "tuple.count" (rCnt H) := by
  intro pins s σ H x vs v us Q I rx rv h
  obtain ⟨a, xs, y, rfl, rfl, ⟨ob, hH, hd⟩, fx, fy, q⟩ := h
  cases rx
  obtain ⟨u, rfl, ru⟩ := rv.one
  obtain ⟨e, _, its, r, ⟨o2, e2, c2, n, d2⟩⟩ := (show ObjOk X.prog X.w H s.heap a (.frz ob (.tup xs)) from I.hok a _ hH)
  rw [e] at e2
  cases e2
  obtain ⟨cls, dd, data, sl⟩ := ob
  simp only at c2 d2 hd
  subst c2 d2 hd
  refine call_meets PySem.F.slot_tuple_count ⟨_, e, rfl⟩ PySem.F.entry_tuple_count (PySem.F.args_tuple_count_2 _ _) (SeqAt.tuple_countAt a its.toArray n none sl u (eqU y)) ⟨e, fun z hz => mem_eqAt ru fy r fx z (by simpa using hz), ?_⟩
  have z : its.toArray.toList.countP (eqU y) = xs.countP fun z => eqV z y := by rw [List.toList_toArray]; exact cnt_eqU r fx
  rw [z]
  exact ⟨.int _, H, I.kept (t' := s.toks + 1) (fun b o e => e), ⟨_, rfl⟩, q⟩
/-! o.m(..) of a tuple -/
def tBMT (r : V → List V → Hp → VK → Prop) (to : TE) (t : TA) : TE := fun σ H Q => to σ H fun x H1 => (∃ a xs, x = .ref a ∧ Tz H1 a xs) ∧ t σ H1 fun xs H2 => r x xs H2 Q
theorem pe_bmT {o : Expr} {to : TE} {name : Str} {apos cpos : Pos} {id : String} {r : V → List V → Hp → VK → Prop} (slot : Slot "tuple" name id) (hty : typeOf (.builtin id) = pure (.type "method_descriptor")) (hm : MtR X id r) (ho : PE X o to) (ha : PA X (e :: es) t)
    (hbase : attributeBase o name X.env (eval o X.env) = eval o X.env := by rfl)
    (hfew : ((backTo cpos (starEach (e :: es) X.env)).all (fun x => !x.1) && (backToKw cpos (keywordEach [] X.env)).all (fun x => x.1.isSome)
      && decide ((e :: es).length + ([] : List Keyword).length + (if ([] : List Keyword).isEmpty then 0 else 1) < 30)) = true := by rfl)
    (hline : (apos.endLine == cpos.line) = true := by rfl) (hs : starEach (e :: es) X.env = (false, eval e X.env) :: starEach es X.env := by rfl) (hplain : (backTo cpos (starEach es X.env)).any (·.1) = false := by rfl) :
    PE X (.Call (.Attribute o name apos) (e :: es) [] cpos) (tBMT r to t) := by
  refine ⟨fun pins s σ H Q I h => ?_⟩
  refine wpAny_Call_method_late hbase hfew hline rfl (thn (ho.run pins s σ H _ I h) fun v s1 ⟨x, H1, I1, r1, ⟨a, xs, ex, ob, hH, hd⟩, q1⟩ => ?_)
  subst ex
  cases r1
  obtain ⟨e1, _, its, _, ⟨o2, e2, c2, _⟩⟩ := (show ObjOk X.prog X.w H1 s1.heap a (.frz ob (.tup xs)) from I1.hok a _ hH)
  rw [e1] at e2
  cases e2
  refine ⟨"tuple", id, PySem.F.plainAttrs_tuple, slot, hty, ⟨ob, e1, c2⟩, fun b z => by cases z; exact ⟨ob, e1, hd⟩, ?_⟩
  have hA := ha.run cpos pins s1 σ H1 _ I1 q1
  rw [hs] at hA ⊢
  refine Calls.callWith_builtin (by show (false || (backTo cpos (starEach es X.env)).any (·.1)) = false; rw [hplain] <;> rfl) (Calls.evalArgs_plain ?_)
  exact thn hA fun us s2 ⟨vs, H2, I2, r2, q2⟩ => hm pins s2 σ H2 (.ref a) vs (.ref a) us Q I2 rfl r2 q2
/-! enumerate over a list -/
def IteZ (K : Fr) (a : Addr) : L2.It where
  go := fun i H => ∃ xs x, SqL K H a xs ∧ xs[i]? = some x
  yld := fun i H v H' => ∃ (T : Addr) (o : Obj) (x : V), v = V.ref T ∧ H T = none ∧ o.dict = none ∧ H' = upd H T (.frz o (.tup [.int (i : Nat), x])) ∧ ∀ xs, SqL K H a xs → xs[i]? = some x
  stop := fun i H => ∃ xs : List V, SqL K H a xs ∧ xs.length ≤ i
theorem pairZ {P : Program} {w : World} {H' : Hp} {h : Heap} {a : Addr} {i : Int} {x : V} {t : Tok} {u : Value} (ru : RelV x u) (e : h.get? a = some { cls := .type "tuple", data := .seq #[.int i t, u] }) :
    ObjOk P w H' h a (.frz { cls := .type "tuple", data := .seq #[.int i t, u] } (.tup [.int i, x])) :=
  ⟨e, (by show 2 ≤ sizeLine; decide), [.int i t, u], .cons ⟨_, rfl⟩ (.cons ru .nil), ⟨_, e, rfl, _, rfl⟩⟩
theorem turn_enZ {P : Program} {w : World} {K : Fr} {elts : List Expr} {kk : Nat} {tpos : Pos} (a e it : Addr) :
    Turn P w K (.Tuple elts kk tpos) (IteZ K a) [e, it] e (fun i h => (∃ old, IsEnum h e it ((i : Nat) : Int) old) ∧ h.IsListIter it a i ∧ e ≠ it) where
  mem := by simp
  obj := fun i h st b hb => by
    obtain ⟨⟨old, h1⟩, ⟨o, h2, _, h3⟩, _⟩ := st
    rcases List.mem_cons.mp hb with rfl | hb
    · exact ⟨_, h1, fun v q => nomatch q⟩
    · rw [List.mem_singleton.mp hb]
      exact ⟨o, h2, fun v q => by rw [h3] at q; cases q⟩
  keep := fun i h h' ⟨⟨old, h1⟩, h2, n⟩ k => ⟨⟨old, k e (by simp) _ h1⟩, h2.at fun o q => k it (by simp) o q, n⟩
  item := by
    intro X hP hw hK hc i pins s σ H E I hf st hg
    subst hP hw hK
    obtain ⟨⟨old, h1⟩, h2, n⟩ := st
    obtain ⟨xs, x, hq, hx⟩ := hg
    obtain ⟨its, rv, p, _⟩ := I.list hq
    obtain ⟨u, hu, ru⟩ := rv.get hx
    have le : e < s.heap.objs.size := Heap.lt_size h1
    have li : it < s.heap.objs.size := by obtain ⟨_, q, _⟩ := h2; exact Heap.lt_size q
    refine wpAny_pyNext_enum_item h1 h2 p.isList (x := u) (by simpa using hu) n fun h' ho hst hT hsz hk => ?_
    refine ⟨_, rfl, wpAny_letOwnedTupleGo_enum (s := { s with heap := h', toks := s.toks + 1 }) ho fun h'' he' sb => ?_⟩
    have hT2 : h''.get? s.heap.objs.size = some { cls := .type "tuple", data := .seq #[.int i s.toks, u] } := (sb.2 _ (Nat.ne_of_gt le)).trans hT
    have I1 : Inv X pins σ (upd H s.heap.objs.size (.frz { cls := .type "tuple", data := .seq #[.int (i : Nat) s.toks, u] } (.tup [.int (i : Nat), x]))) { s with heap := h'', toks := s.toks + 1 } := by
      refine I.turnedNew (ch := [e, it]) (fun b ob hb q => ?_) hf (Nat.le_refl _) (pairZ (i := (i : Nat)) ru hT2)
      have ne : b ≠ e := fun z => hb (by simp [z])
      have ni : b ≠ it := fun z => hb (by simp [z])
      exact (sb.2 b ne).trans (hk b ob ne ni q)
    refine ⟨.ref s.heap.objs.size, _, I1, rfl, ⟨_, _, x, rfl, I.hok.fresh (Nat.le_refl _), rfl, rfl, fun ys hy => by rw [I.list_inj hy hq]; exact hx⟩, ⟨⟨u, ?_⟩, hst.at fun o q => (sb.2 it (Ne.symm n)).trans q, n⟩, fun b hb => ?_⟩
    · rw [Int.natCast_succ]
      exact he'
    · have lb : b < s.heap.objs.size := by
        rcases List.mem_cons.mp hb with rfl | hb
        · exact le
        · rw [List.mem_singleton.mp hb]; exact li
      rw [upd_ne (Nat.ne_of_lt lb)]
      exact (hf b hb).1
  done := by
    intro X hP hw hK hc i pins s σ H E I hf st hg
    subst hP hw hK
    obtain ⟨⟨old, h1⟩, h2, n⟩ := st
    obtain ⟨xs, hq, hx⟩ := hg
    obtain ⟨its, rv, p, _⟩ := I.list hq
    obtain ⟨f0, f1, f2, f3, f4, f5⟩ := hf it (by simp)
    have hl := rv.length
    exact wpAny_pyNext_enum_end (I.ok.hd hc) h1 h2 p.isList (by rw [List.getElem?_toArray, List.getElem?_eq_none (by omega)]) fun h' eb => ⟨rfl, I.turned (t' := s.toks) (fun b o hb q => eb b o hb q) f0 f1 f3 f4 f5⟩
  self := fun A i s Q E st h => by
    obtain ⟨⟨_, h1⟩, _⟩ := st
    exact wpAny_pyIter_enum h1 h
def iEnZ (K : Fr) (ta : TA) : TI := fun σ H R => ta σ H fun vs H1 => ∃ a xs, vs = [.ref a] ∧ SqL K H1 a xs ∧ R (IteZ K a) H1
theorem pi_enZ {e : Expr} {ta : TA} {p pos tpos : Pos} {elts : List Expr} {kk : Nat} (hg : Gl X "enumerate") (hm : X.mg "enumerate" = none) (ha : PA X [e] ta) (hs : starEach [e] X.env = [(false, eval e X.env)] := by rfl) :
    PI X (.Tuple elts kk tpos) (.Call (.Name "enumerate" p) [e] [] pos) (iEnZ X.K ta) := by
  refine ⟨fun pins s σ H R I h => Call_ (ld_blt I hg hm boot_enumerate (PyProof.Rows.callWith_type1 (thn (ha.run pos pins s σ H _ I h) fun us s1 ⟨vs, H1, I1, r1, a, xs, ex, hq, q⟩ => ?_) hs rfl))⟩
  subst ex
  cases r1 with
  | cons r rr =>
    cases rr
    cases r
    obtain ⟨its, rv, p', _⟩ := I1.list hq
    refine call_enumerate_list p'.isList fun h' he hit hsz hk => wpAny_pyIter_enum he ?_
    have I2 : Inv X pins σ H1 { s1 with heap := h' } := I1.kept (t' := s1.toks) hk
    refine ⟨s1.heap.objs.size + 1, [s1.heap.objs.size + 1, s1.heap.objs.size], _, _, H1, rfl, I2, turn_enZ a (s1.heap.objs.size + 1) s1.heap.objs.size, ⟨⟨.none, he⟩, hit, Nat.succ_ne_self _⟩, fun b hb => ?_, q⟩
    have le : s1.heap.objs.size ≤ b := by
      rcases List.mem_cons.mp hb with rfl | hb
      · exact Nat.le_add_right _ _
      · rw [List.mem_singleton.mp hb]; exact Nat.le_refl _
    exact I1.fpOk le (I1.hok.fresh le)
end
end J
/-! JM: tuple * int, any int. -/
namespace J
open PySem PySem.Spec PyProof.Rows L2
theorem tuple_mul1 (l : Addr) (items : Array Value) (n : Nat) (dd : Option Addr) (sl : Array (Option Value)) (x : Int) (u : Tok) (c0 : (decide (x < -(2 ^ 63)) || decide (x ≥ 2 ^ 63)) = false) (c1 : (items.isEmpty || x == 1) = true) :
    Meets (Builtin.«tuple.__mul__» ⟨[.ref l, .int x u], []⟩) (fun _ R s => s.heap.get? l = some { cls := .type "tuple", dict := dd, data := .seq items n, slots := sl } ∧
      R (.ok (.ret (Value.ref l))) s) :=
  .of_wp fun prog w A R s h => by
    obtain ⟨hp, g, d, tk, os⟩ := s
    obtain ⟨hl, h⟩ := h
    have f1 := AutoSeq1.idx_int
    wp_walk using wpAny_loadPart' hl
    repeat (first
      | (refine wpAny_ite_false (decide_eq_false (by rw [c0]; exact Bool.false_ne_true)) ?_; wp_walk using wpAny_loadPart' hl)
      | (refine wpAny_ite_true (decide_eq_true c1) ?_; wp_walk using wpAny_loadPart' hl))
    exact ⟨_, rfl, h⟩
theorem tuple_mul0 (l : Addr) (items : Array Value) (n : Nat) (dd : Option Addr) (sl : Array (Option Value)) (x : Int) (u : Tok) (c0 : (decide (x < -(2 ^ 63)) || decide (x ≥ 2 ^ 63)) = false) (c1 : (items.isEmpty || x == 1) = false) (c2 : (decide (x ≤ 0) || items.isEmpty) = true) :
    Meets (Builtin.«tuple.__mul__» ⟨[.ref l, .int x u], []⟩) (fun _ R s => s.heap.get? l = some { cls := .type "tuple", dict := dd, data := .seq items n, slots := sl } ∧
      R (.ok (.ret (Value.ref s.heap.objs.size))) { s with heap := s.heap.push { cls := Value.type "tuple", data := Data.seq #[] }, toks := s.toks }) :=
  .of_wp fun prog w A R s h => by
    obtain ⟨hp, g, d, tk, os⟩ := s
    obtain ⟨hl, h⟩ := h
    have f1 := AutoSeq1.idx_int
    wp_walk using wpAny_loadPart' hl
    repeat (first
      | (refine wpAny_ite_false (decide_eq_false (by rw [c0]; exact Bool.false_ne_true)) ?_; wp_walk using wpAny_loadPart' hl)
      | (refine wpAny_ite_false (decide_eq_false (by rw [c1]; exact Bool.false_ne_true)) ?_; wp_walk using wpAny_loadPart' hl)
      | (refine wpAny_ite_true (decide_eq_true c2) ?_; wp_walk using wpAny_loadPart' hl))
    exact ⟨_, rfl, h⟩
def rRepZ (K : PySem.W.Frag) : R2 := fun x y H Q => ∃ l k xs, x = .ref l ∧ y = .int k ∧ SqT K H l xs ∧ -1000 ≤ k ∧ k ≤ 1000 ∧ xs.length ≤ 1000 ∧ ((k = 1 ∨ xs = []) → Q (.ref l) H) ∧ (k ≠ 1 → xs ≠ [] → LaysT H (List.replicate k.toNat xs).flatten Q)
theorem op_repZ {X : Cx} : OpR X (binaryOp .Mult) (rRepZ X.K) := by
  intro pins s σ H x y v u Q I rx ry h
  obtain ⟨l, k, xs, rfl, rfl, hT, h1, h2, hz, qa, qb⟩ := h
  cases rx
  obtain ⟨t, rfl⟩ := ry
  obtain ⟨its, r, ⟨⟨cls, dd, data, sl⟩, ho, hc, n, hd⟩, hs⟩ := I.tuple hT
  simp only at hc hd
  subst hc hd
  have hle : its.length = xs.length := r.length.symm
  have c0 : (decide (k < -(2 ^ 63)) || decide (k ≥ 2 ^ 63)) = false := by
    rw [decide_eq_false (by omega), decide_eq_false (by omega)] <;> rfl
  by_cases c : k = 1 ∨ xs = []
  · have c1 : (its.toArray.isEmpty || k == 1) = true := by
      rcases c with rfl | e
      · rw [beq_self_eq_true, Bool.or_true]
      · have : its = [] := List.eq_nil_of_length_eq_zero (by rw [hle, e]; rfl)
        rw [this]
        rfl
    refine wpAny_binaryOp_repeat_ref (T := "tuple") (U := "int") (by decide) ⟨_, ho, rfl⟩ (fun s' => typeIs_int s' k t) noFill_tuple_mul F.fills_int_mul F.slot_int_rmul repeat_tuple F.slot_int_index.lookup
      (call_meets F.slot_int_rmul (typeIs_int s k t) F.entry_int_rmul (F.args_int_rmul_2 _ _) (int_rmul_tuple k t l its.toArray n dd sl)
        ⟨ho, rfl, ⟨_, ho, rfl⟩, call_meets F.slot_tuple_mul ⟨_, ho, rfl⟩ F.entry_tuple_mul (F.args_tuple_mul_2 _ _) (tuple_mul1 l its.toArray n dd sl k t c0 c1) ⟨ho, ?_⟩⟩)
    exact ⟨.ref l, H, I, rfl, qa c⟩
  · have k1 : k ≠ 1 := fun e => c (.inl e)
    have hne : xs ≠ [] := fun e => c (.inr e)
    have hn : its ≠ [] := fun e => hne (List.eq_nil_of_length_eq_zero (by rw [← hle, e]; rfl))
    have hi : its.toArray.isEmpty = false := by
      cases its with
      | nil => exact absurd rfl hn
      | cons a b => rfl
    have c1 : (its.toArray.isEmpty || k == 1) = false := by
      rw [hi, Bool.false_or]
      exact beq_eq_false_iff_ne.mpr k1
    by_cases k0 : k ≤ 0
    · have c2 : (decide (k ≤ 0) || its.toArray.isEmpty) = true := by rw [decide_eq_true k0]; rfl
      refine wpAny_binaryOp_repeat_ref (T := "tuple") (U := "int") (by decide) ⟨_, ho, rfl⟩ (fun s' => typeIs_int s' k t) noFill_tuple_mul F.fills_int_mul F.slot_int_rmul repeat_tuple F.slot_int_index.lookup
        (call_meets F.slot_int_rmul (typeIs_int s k t) F.entry_int_rmul (F.args_int_rmul_2 _ _) (int_rmul_tuple k t l its.toArray n dd sl)
          ⟨ho, rfl, ⟨_, ho, rfl⟩, call_meets F.slot_tuple_mul ⟨_, ho, rfl⟩ F.entry_tuple_mul (F.args_tuple_mul_2 _ _) (tuple_mul0 l its.toArray n dd sl k t c0 c1 c2) ⟨ho, ?_⟩⟩)
      have e0 : (List.replicate k.toNat xs).flatten = [] := by rw [show k.toNat = 0 by omega]; rfl
      have q := qb k1 hne
      rw [e0] at q
      exact layZ (t := s.toks) (its := []) I (Nat.zero_le _) .nil q
    · have hsz0 : its.toArray.size = xs.length := by rw [List.size_toArray, hle]
      have hm : ((its.toArray.size : Nat) : Int) * k ≤ 1000000 := by
        rw [hsz0]
        have a1 : ((xs.length : Nat) : Int) * k ≤ 1000 * k := Int.mul_le_mul_of_nonneg_right (by omega) (by omega)
        omega
      have flen : (List.replicate k.toNat its).flatten.length ≤ sizeLine := by
        rw [PyProof.Rows.lm_len_rep_flat, hle, sizeLine_eq]
        have a1 : k.toNat * xs.length ≤ 1000 * 1000 := Nat.mul_le_mul (by omega) hz
        omega
      have c2 : (decide (k ≤ 0) || its.toArray.isEmpty) = false := by
        rw [hi, Bool.or_false]
        exact decide_eq_false (by omega)
      have c4 : Builtin.Tuple.tupleTooMany (((its.toArray.size : Nat) : Int) * k) = false := by
        unfold Builtin.Tuple.tupleTooMany
        rw [sizeLine_eq]
        exact decide_eq_false (by omega)
      refine wpAny_binaryOp_repeat_ref (T := "tuple") (U := "int") (by decide) ⟨_, ho, rfl⟩ (fun s' => typeIs_int s' k t) noFill_tuple_mul F.fills_int_mul F.slot_int_rmul repeat_tuple F.slot_int_index.lookup
        (call_meets F.slot_int_rmul (typeIs_int s k t) F.entry_int_rmul (F.args_int_rmul_2 _ _) (int_rmul_tuple k t l its.toArray n dd sl)
          ⟨ho, rfl, ⟨_, ho, rfl⟩, call_meets F.slot_tuple_mul ⟨_, ho, rfl⟩ F.entry_tuple_mul (F.args_tuple_mul_2 _ _) (tuple_mulW l its.toArray n dd sl k t c0 c1 c2 (by omega) c4 (by rw [size_rep, List.size_toArray]; exact flen)) ⟨ho, ?_⟩⟩)
      rw [size_rep]
      exact layZ (t := s.toks) I (by rw [PyProof.Rows.lm_len_rep_flat, sizeLine_eq]; have a1 : k.toNat * xs.length ≤ 1000 * 1000 := Nat.mul_le_mul (by omega) hz; omega) (r.rep k.toNat) (qb k1 hne)
end J
namespace J
open PySem L2
/-- the heaps behind an operation: as they were, or with a new tuple -/
def Ext (F H F' H' : Hp) : Prop := (F' = F ∧ H' = H) ∨ ∃ p o xs, H p = none ∧ o.dict = none ∧ F' = upd F p (.frz o (.tup xs)) ∧ H' = upd H p (.frz o (.tup xs))
def POp (F H : Hp) : Rt → VK → Prop
  | .fz d, Q => ∀ v F' H', Ext F H F' H' → Rp F' v d → Q v H'
  | .ow ds, Q => ∀ p vs, H p = none → RpA F vs ds → Q (.ref p) (upd H p (.lst vs))
  | .nt _, _ => True
def VwD (F H : Hp) (v : V) : D → Prop
  | .list ds => ∃ a vs, v = V.ref a ∧ H a = some (.lst vs) ∧ RpA F vs ds
  | d => Rp F v d
section
variable {K : Fr} {C : FC} {F F' : Hp} {env env' : Env} {σ : St} {H H' : Hp}
theorem VwD.of (s : Same F H) {v : V} : ∀ {d : D}, Rp F v d → VwD F H v d
  | .list ds, h => by
    cases h with
    | lst h1 h2 => exact ⟨_, _, rfl, s _ _ h1, h2⟩
  | .none, h => h
  | .bool _, h => h
  | .int _, h => h
  | .str _, h => h
  | .tuple _, h => h
  | .dict _, h => h
theorem VwD.dp (s : Same F H) {v : V} : ∀ {d : D}, VwD F H v d → Dp K H v d
  | .list ds, h => by
    obtain ⟨a, vs, rfl, h1, h2⟩ := h
    exact .lst (SqL.of h1) (RpA.dp ds _ (h2.up s))
  | .none, h => Rp.dp _ _ (Rp.up (show Rp F v _ from h) s)
  | .bool _, h => Rp.dp _ _ (Rp.up (show Rp F v _ from h) s)
  | .int _, h => Rp.dp _ _ (Rp.up (show Rp F v _ from h) s)
  | .str _, h => Rp.dp _ _ (Rp.up (show Rp F v _ from h) s)
  | .tuple _, h => Rp.dp _ _ (Rp.up (show Rp F v _ from h) s)
  | .dict _, h => Rp.dp _ _ (Rp.up (show Rp F v _ from h) s)
theorem Hd.vw {Hs : Hp} (h : Hd K C F env σ H) {r : RV} {v : V} (hr : RVR Hs F env σ H r v) {d : D} (hd : dr env r = some d) : VwD F H v d := by
  cases r with
  | fz d' => simp at hd; subst hd; exact VwD.of h.ex hr
  | tm ds =>
    simp at hd; subst hd
    obtain ⟨a, vs, e, h1, h2, h3, _⟩ := hr
    exact ⟨a, vs, e, h1, h3⟩
  | nt o => simp at hd
  | sl i =>
    have hv : σ[i]? = some (some v) := hr
    simp only [dr] at hd
    split at hd
    · rename_i d' q
      cases hd
      obtain ⟨w, h1, h2⟩ := h.fz i _ q
      rw [hv] at h1; cases h1
      exact VwD.of h.ex h2
    · rename_i ds q
      cases hd
      obtain ⟨a, vs, h1, h2, _, h4, _⟩ := h.ow i _ q
      rw [hv] at h1; cases h1
      exact ⟨a, vs, rfl, h2, h4⟩
    · rename_i ds q
      cases hd
      obtain ⟨a, vs, h1, h2, h3, h4⟩ := h.bw i _ q
      rw [hv] at h1; cases h1
      exact ⟨a, vs, rfl, h.keep _ _ h2 h3, h4⟩
    · cases hd
theorem Same.none {F H : Hp} (s : Same F H) {p : Addr} (h : H p = none) : F p = none := by
  cases e : F p with
  | none => rfl
  | some o => rw [s p o e] at h; cases h
/-- a new object beside -/
theorem Hd.new (h : Hd K C F env σ H) {p : Addr} {o : HO} (hp : H p = none) : Hd K C F env σ (upd H p o) := by
  have kp : ∀ {i : Nat} {ob : Ob} {v : V}, env[i]? = some (.nt ob) → σ[i]? = some (some v) → foot (upd H p o) ob v = foot H ob v := fun {i ob v} q z => by
    obtain ⟨v', h1, h2, _⟩ := h.nt i ob q
    rw [z] at h1; cases h1
    exact foot_keep ob v fun a m => upd_ne fun e => (okO_at ob v h2 a m).1 (by rw [e]; exact hp)
  refine ⟨fun a u q => ?_, h.len, h.fz, fun i ds q => ?_, h.bw, h.sc, h.inj, fun a u q n => ?_, fun a q => h.old a (upd_none q).2, h.dom, h.mps, fun i ob q => ?_, fun i j o o' v v' a q1 q2 z1 z2 m1 m2 => ?_, fun i j o ds v a q1 q2 z1 z2 m => ?_⟩
  · have := h.ex a u q
    rw [upd_ne (ne_of_none this hp)]; exact this
  · obtain ⟨a, vs, h1, h2, h3⟩ := h.ow i ds q
    exact ⟨a, vs, h1, by rw [upd_ne (ne_of_none h2 hp)]; exact h2, h3⟩
  · have := h.keep a u q n
    rw [upd_ne (ne_of_none this hp)]; exact this
  · obtain ⟨v, h1, h2, h3⟩ := h.nt i ob q
    refine ⟨v, h1, okO_keep (Same.refl F) ob v h2 fun a m => ?_, ?_⟩
    · obtain ⟨z1, z2⟩ := okO_at ob v h2 a m
      exact ⟨upd_ne fun e => z1 (by rw [e]; exact hp), z2⟩
    · rw [kp q h1]; exact h3
  · rw [kp q1 z1] at m1
    rw [kp q2 z2] at m2
    exact h.ntj i j o o' v v' a q1 q2 z1 z2 m1 m2
  · rw [kp q1 z1] at m
    exact h.nto i j o ds v a q1 q2 z1 z2 m
theorem Hd.footN (h : Hd K C F env σ H) {i : Nat} {ob : Ob} {v : V} (q : env[i]? = some (.nt ob)) (z : σ[i]? = some (some v)) : okO F H ob v ∧ ∀ a ∈ foot H ob v, C.H0 a = none ∨ a ∈ C.Mu := by
  obtain ⟨v', h1, h2, h3⟩ := h.nt i ob q
  rw [z] at h1; cases h1
  exact ⟨h2, h3⟩
theorem Hd.notNew (h : Hd K C F env σ H) {p : Addr} (hp : H p = none) : NotOw env σ H p := ⟨fun j es q z => by
  obtain ⟨a, ws, h1, h2, _⟩ := h.ow j es q
  rw [z] at h1; cases h1
  exact some_ne h2 hp, fun j o v q z m => (okO_at o v (h.footN q z).1 p m).1 hp⟩
theorem Hd.footNew (h : Hd K C F env σ H) {p : Addr} {u : HO} (hp : H p = none) {i : Nat} {ob : Ob} {v : V} (q : env[i]? = some (.nt ob)) (z : σ[i]? = some (some v)) : foot (upd H p u) ob v = foot H ob v :=
  foot_keep ob v fun a m => upd_ne fun e => (okO_at ob v (h.footN q z).1 a m).1 (by rw [e]; exact hp)
theorem NotOw.up (h : Hd K C F env σ H) {p a : Addr} {u : HO} (hp : H p = none) (n : NotOw env σ H a) : NotOw env σ (upd H p u) a := ⟨n.ow, fun j o v q z => by
  rw [h.footNew hp q z]
  exact n.nt j o v q z⟩
theorem Stp.new (h : Hd K C F env σ H) {p : Addr} {o : HO} (hp : H p = none) : Stp F env σ H F env (upd H p o) :=
  ⟨Same.refl F, fun a u q1 q2 _ => ⟨q1, by rw [upd_ne (ne_of_none q2 hp)]; exact q2⟩, fun i ds q => ⟨ds, q⟩, fun a q => (upd_none q).2, fun i ob q => ⟨ob, q, fun v a z m _ => by rw [h.footNew hp q z] at m; exact m⟩⟩
/-- a new object, frozen at once -/
theorem Hd.newF (h : Hd K C F env σ H) {p : Addr} {o : HO} (hp : H p = none) : Hd K C (upd F p o) env σ (upd H p o) := by
  have hf := Same.none h.ex hp
  have s := same_upd (o := o) hf
  refine ⟨fun a u q => ?_, h.len, fun i d q => ?_, fun i ds q => ?_, fun i ds q => ?_, h.sc, h.inj, fun a u q n => ?_, fun a q => h.old a (upd_none q).2, fun a q => ?_, h.mps, fun i ob q => ?_, fun i j o o' v v' a q1 q2 z1 z2 m1 m2 => ?_, fun i j o ds v a q1 q2 z1 z2 m => ?_⟩
  · by_cases e : a = p
    · subst e; rw [upd_same] at q ⊢; exact q
    · rw [upd_ne e] at q ⊢; exact h.ex a u q
  · obtain ⟨v, h1, h2⟩ := h.fz i d q
    exact ⟨v, h1, h2.up s⟩
  · obtain ⟨a, vs, h1, h2, h3, h4, h5⟩ := h.ow i ds q
    have e := ne_of_none h2 hp
    exact ⟨a, vs, h1, by rw [upd_ne e]; exact h2, by rw [upd_ne e]; exact h3, h4.up s, h5⟩
  · obtain ⟨a, vs, h1, h2, h3, h4⟩ := h.bw i ds q
    exact ⟨a, vs, h1, h2, h3, h4.up s⟩
  · have := h.keep a u q n
    rw [upd_ne (ne_of_none this hp)]; exact this
  · by_cases e : a = p
    · subst e; exact .inr (.inl (h.old _ hp))
    · rw [upd_ne e] at q; exact h.dom a q
  · obtain ⟨v, h1, h2, h3⟩ := h.nt i ob q
    refine ⟨v, h1, okO_keep s ob v h2 fun a m => ?_, ?_⟩
    · obtain ⟨z1, z2⟩ := okO_at ob v h2 a m
      have e : a ≠ p := fun e => z1 (by rw [e]; exact hp)
      exact ⟨upd_ne e, (upd_ne e).trans z2⟩
    · rw [h.footNew hp q h1]; exact h3
  · rw [h.footNew hp q1 z1] at m1
    rw [h.footNew hp q2 z2] at m2
    exact h.ntj i j o o' v v' a q1 q2 z1 z2 m1 m2
  · rw [h.footNew hp q1 z1] at m
    exact h.nto i j o ds v a q1 q2 z1 z2 m
theorem Stp.newF (h : Hd K C F env σ H) {p : Addr} {o : HO} (hp : H p = none) : Stp F env σ H (upd F p o) env (upd H p o) :=
  ⟨same_upd (Same.none h.ex hp), fun a u q1 q2 _ => by
    have e := ne_of_none q2 hp
    exact ⟨by rw [upd_ne e]; exact q1, by rw [upd_ne e]; exact q2⟩, fun i ds q => ⟨ds, q⟩, fun a q => (upd_none q).2, fun i ob q => ⟨ob, q, fun v a z m _ => by rw [h.footNew hp q z] at m; exact m⟩⟩
theorem Ext.hd (h : Hd K C F env σ H) (e : Ext F H F' H') : Hd K C F' env σ H' ∧ Stp F env σ H F' env H' := by
  rcases e with ⟨rfl, rfl⟩ | ⟨p, o, xs, hp, _, rfl, rfl⟩
  · exact ⟨h, Stp.refl⟩
  · exact ⟨h.newF hp, Stp.newF h hp⟩
theorem Hd.tmNew (h : Hd K C F env σ H) {Hs F0 : Hp} {env0 : Env} (s : Stp F0 env0 σ Hs F env H) {p : Addr} {vs : List V} {ds : List D} (hp : H p = none) (r : RpA F vs ds) : RVR Hs F env σ (upd H p (.lst vs)) (.tm ds) (V.ref p) :=
  ⟨p, vs, rfl, upd_same, Same.none h.ex hp, r, s.old p hp, (h.notNew hp).up h hp⟩
theorem POp.end {F0 Hs : Hp} {env0 : Env} {rt : Rt} {Q : VK} (h : Hd K C F env σ H) (s : Stp F0 env0 σ Hs F env H)
    (q : ∀ F' H' v, Stp F0 env0 σ Hs F' env H' → Hd K C F' env σ H' → RVR Hs F' env σ H' (toRV rt) v → Q v H') : POp F H rt Q := by
  cases rt with
  | fz d =>
    intro v F' H' e r
    obtain ⟨h', s'⟩ := e.hd h
    exact q F' H' v (s.trans s') h' r
  | ow ds =>
    intro p vs hp r
    exact q F _ _ (s.trans (Stp.new h hp)) (h.new hp) (h.tmNew s hp r)
  | nt o => exact True.intro
end
def S1 (r : List V → Hp → VK → Prop) (g : D → Option Rt) : Prop := ∀ F H x d rt Q, Same F H → VwD F H x d → g d = some rt → POp F H rt Q → r [x] H Q
def SU (r : V → Hp → VK → Prop) (g : D → Option Rt) : Prop := ∀ F H x d rt Q, Same F H → VwD F H x d → g d = some rt → POp F H rt Q → r x H Q
def S2 (r : R2) (g : D → D → Option Rt) : Prop := ∀ F H x y d e rt Q, Same F H → VwD F H x d → VwD F H y e → g d e = some rt → POp F H rt Q → r x y H Q
def S12 (r : List V → Hp → VK → Prop) (g : D → D → Option Rt) : Prop := ∀ F H x y d e rt Q, Same F H → VwD F H x d → VwD F H y e → g d e = some rt → POp F H rt Q → r [x, y] H Q
/-! ### readings of parts -/
section
variable {X : Cx} {C : FC} {a b c e : Expr} {es : List Expr} {pos : Pos} {fa fb fc : M RV} {ft fu : M Bool} {fl : M (List D)}
theorem tJ.go {K : Fr} {F : Hp} {env : Env} {σ : St} {H : Hp} {f : M RV} {r : RV} {env' : Env} {Q : VK} (h : Hd K C F env σ H) (e : f env = some (r, env'))
    (q : ∀ F' H' v, Stp F env σ H F' env' H' → Hd K C F' env' σ H' → RVR H F' env' σ H' r v → Q v H') : tJ K C f σ H Q := ⟨F, env, r, env', h, e, q⟩
theorem ttJ.go {K : Fr} {F : Hp} {env : Env} {σ : St} {H : Hp} {f : M Bool} {b : Bool} {env' : Env} {Q : Bool → Hp → Prop} (h : Hd K C F env σ H) (e : f env = some (b, env'))
    (q : ∀ F' H', Stp F env σ H F' env' H' → Hd K C F' env' σ H' → Q b H') : ttJ K C f σ H Q := ⟨F, env, b, env', h, e, q⟩
theorem taJ.go {K : Fr} {F : Hp} {env : Env} {σ : St} {H : Hp} {f : M (List D)} {ds : List D} {env' : Env} {Q : List V → Hp → Prop} (h : Hd K C F env σ H) (e : f env = some (ds, env'))
    (q : ∀ F' H' vs, Stp F env σ H F' env' H' → Hd K C F' env' σ H' → RpA F' vs ds → Q vs H') : taJ K C f σ H Q := ⟨F, env, ds, env', h, e, q⟩
theorem je_var {i : Nat} {x : Str} (h : PE X (.Name x pos) (tVar i)) : JE X C (.Name x pos) (eVar i) := by
  refine pe_weak h fun σ H Q ⟨F, env, r, env', hd, he, q⟩ => ?_
  simp only [eVar] at he
  split at he
  · rename_i d p
    cases he
    obtain ⟨v, h1, h2⟩ := hd.fz i d p
    exact ⟨v, h1, q F H v Stp.refl hd h2⟩
  · rename_i ds p
    cases he
    obtain ⟨a, vs, h1, _⟩ := hd.ow i ds p
    exact ⟨_, h1, q F H _ Stp.refl hd h1⟩
  · rename_i ds p
    cases he
    obtain ⟨a, vs, h1, _⟩ := hd.bw i ds p
    exact ⟨_, h1, q F H _ Stp.refl hd h1⟩
  · rename_i o p
    cases he
    obtain ⟨v, h1, _⟩ := hd.nt i o p
    exact ⟨_, h1, q F H _ Stp.refl hd h1⟩
  · cases he
theorem je_c {v : V} {d : D} (h : PE X e (tC v)) (r : ∀ F, Rp F v d) : JE X C e (eC d) := by
  refine pe_weak h fun σ H Q ⟨F, env, rv, env', hd, he, q⟩ => ?_
  simp only [eC] at he
  cases he
  exact q F H v Stp.refl hd (r F)
theorem je_int {i j pos} : JE X C (.Constant (.int i) j pos) (eC (.int i)) := je_c pe_int fun _ => .int i
theorem je_bl {b j pos} : JE X C (.Constant (.bool b) j pos) (eC (.bool b)) := je_c pe_bl fun _ => .bl b
theorem je_non {j pos} : JE X C (.Constant .none j pos) (eC .none) := je_c pe_non fun _ => .non
theorem je_str {x j pos} : JE X C (.Constant (.str x) j pos) (eC (.str x)) := je_c pe_str fun _ => .str x
/-- two parts, then an operation on their data -/
theorem op2_run {K : Fr} {g : D → D → Option Rt} {r : R2} (S : S2 r g) {σ : St} {H : Hp} {Q : VK} (h : tJ K C (eOp2 g fa fb) σ H Q) : tOp r (tJ K C fa) (tJ K C fb) σ H Q := by
  obtain ⟨F, env, rv, env', hd, he, q⟩ := h
  simp only [eOp2] at he
  split at he
  · cases he
  rename_i x e1 ha
  split at he
  · cases he
  rename_i y e2 hb
  split at he
  · rename_i d e hdx hdy
    split at he
    · cases he
    rename_i rt hg
    cases he
    refine tJ.go hd ha fun F1 H1 v s1 h1 r1 => tJ.go h1 hb fun F2 H2 w s2 h2 r2 => ?_
    exact S F2 H2 v w d e rt Q h2.ex (h2.vw (r1.step s2) hdx) (h2.vw r2 hdy) hg (POp.end h2 (s1.trans s2) q)
  · cases he
theorem je_op {op : Operator} {r : R2} {g : D → D → Option Rt} (ho : OpR X (binaryOp op) r) (S : S2 r g) (ha : JE X C a fa) (hb : JE X C b fb) : JE X C (.BinOp a op b pos) (eOp2 g fa fb) :=
  pe_weak (pe_op ho ha hb) fun σ H Q h => op2_run S h
theorem je_cmp {op : CmpOp} {r : R2} {g : D → D → Option Rt} (ho : OpR X (compareOp op) r) (S : S2 r g) (ha : JE X C a fa) (hb : JE X C b fb) (hm : behindInMarks op b = false) : JE X C (.Compare a [op] [b] pos) (eOp2 g fa fb) :=
  pe_weak (pe_cmpR ho ha hb hm) fun σ H Q h => op2_run S h
theorem tval_run {K : Fr} {t : TE} {f : M RV} (w : ∀ σ H Q, tJ K C f σ H Q → t σ H Q) {σ : St} {H : Hp} {Q : Bool → Hp → Prop} (h : ttJ K C (tVal f) σ H Q) : t σ H fun x H' => ∃ k, x = V.bl k ∧ Q k H' := by
  obtain ⟨F, env, b, env', hd, he, q⟩ := h
  simp only [tVal] at he
  split at he
  · rename_i b' e1 hf
    cases he
    refine w σ H _ (tJ.go hd hf fun F1 H1 v s1 h1 r1 => ?_)
    have r1' : Rp F1 v (.bool b) := r1
    cases r1'
    exact ⟨b, rfl, q F1 H1 s1 h1⟩
  · cases he
theorem jt_cmp {op : CmpOp} {r : R2} {g : D → D → Option Rt} (ho : OpR X (compareOp op) r) (S : S2 r g) (ha : JE X C a fa) (hb : JE X C b fb) (hm : behindInMarks op b = false) : JT X C (.Compare a [op] [b] pos) (tVal (eOp2 g fa fb)) :=
  pt_weak (pt_cmpR ho ha hb hm) fun σ H Q h => tval_run (t := tOp r (tJ X.K C fa) (tJ X.K C fb)) (fun σ H Q h => op2_run S h) h
theorem jt_val (h : JE X C e fa) (he : ∀ whole, isTrue e X.env whole = (do let v ← whole; standAt e.pos; holding [v] (truthy v)) := by intro _; rfl) : JT X C e (tVal fa) :=
  pt_weak (pt_val h he) fun σ H Q h => tval_run (fun _ _ _ z => z) h
theorem un_run {K : Fr} {g : D → Option Rt} {r : V → Hp → VK → Prop} (S : SU r g) {σ : St} {H : Hp} {Q : VK} (h : tJ K C (eOp1 g fa) σ H Q) : tJ K C fa σ H fun x H1 => r x H1 Q := by
  obtain ⟨F, env, rv, env', hd, he, q⟩ := h
  simp only [eOp1] at he
  split at he
  · cases he
  rename_i x e1 ha
  split at he
  · cases he
  rename_i d hdx
  split at he
  · cases he
  rename_i rt hg
  cases he
  exact tJ.go hd ha fun F1 H1 v s1 h1 r1 => S F1 H1 v d rt Q h1.ex (h1.vw r1 hdx) hg (POp.end h1 s1 q)
theorem je_un {op : UnaryOp} {r : V → Hp → VK → Prop} {g : D → Option Rt} (ho : UnR X (unaryOp op) r) (S : SU r g) (ha : JE X C a fa) : JE X C (.UnaryOp op a pos) (eOp1 g fa) :=
  pe_weak (pe_un ho ha) fun σ H Q h => un_run S h
theorem je_and {rest : List Expr} (ha : JE X C a fa) (hb : JE X C (.BoolOp .And (b :: rest) pos) fb) : JE X C (.BoolOp .And (a :: b :: rest) pos) (eAnd fa fb) := by
  refine pe_weak (pe_and ha hb) fun σ H Q ⟨F, env, rv, env', hd, he, q⟩ => ?_
  simp only [eAnd] at he
  split at he
  · rename_i e1 h1
    refine tJ.go hd h1 fun F1 H1 v s1 h1 r1 => ?_
    have r1' : Rp F1 v (.bool true) := r1
    cases r1'
    refine ⟨true, rfl, ?_⟩
    rw [if_pos rfl]
    exact tJ.go h1 he fun F2 H2 w s2 h2 r2 => q F2 H2 w (s1.trans s2) h2 (r2.back s1.old)
  · rename_i e1 h1
    cases he
    refine tJ.go hd h1 fun F1 H1 v s1 h1 r1 => ?_
    have r1' : Rp F1 v (.bool false) := r1
    cases r1'
    refine ⟨false, rfl, ?_⟩
    rw [if_neg Bool.false_ne_true]
    exact q F1 H1 _ s1 h1 (.bl false)
  · cases he
theorem je_or {rest : List Expr} (ha : JE X C a fa) (hb : JE X C (.BoolOp .Or (b :: rest) pos) fb) : JE X C (.BoolOp .Or (a :: b :: rest) pos) (eOr fa fb) := by
  refine pe_weak (pe_or ha hb) fun σ H Q ⟨F, env, rv, env', hd, he, q⟩ => ?_
  simp only [eOr] at he
  split at he
  · rename_i e1 h1
    cases he
    refine tJ.go hd h1 fun F1 H1 v s1 h1 r1 => ?_
    have r1' : Rp F1 v (.bool true) := r1
    cases r1'
    refine ⟨true, rfl, ?_⟩
    rw [if_pos rfl]
    exact q F1 H1 _ s1 h1 (.bl true)
  · rename_i e1 h1
    refine tJ.go hd h1 fun F1 H1 v s1 h1 r1 => ?_
    have r1' : Rp F1 v (.bool false) := r1
    cases r1'
    refine ⟨false, rfl, ?_⟩
    rw [if_neg Bool.false_ne_true]
    exact tJ.go h1 he fun F2 H2 w s2 h2 r2 => q F2 H2 w (s1.trans s2) h2 (r2.back s1.old)
  · cases he
theorem je_one {op} (ha : JE X C a fa) : JE X C (.BoolOp op [a] pos) fa := pe_one ha
theorem je_not (ha : JE X C a fa) : JE X C (.UnaryOp .Not a pos) (eNot fa) := by
  refine pe_weak (pe_not ha) fun σ H Q ⟨F, env, rv, env', hd, he, q⟩ => ?_
  simp only [eNot] at he
  split at he
  · rename_i b e1 h1
    cases he
    refine tJ.go hd h1 fun F1 H1 v s1 h1 r1 => ?_
    have r1' : Rp F1 v (.bool b) := r1
    cases r1'
    exact ⟨b, rfl, q F1 H1 _ s1 h1 (.bl _)⟩
  · cases he
theorem je_if (hc : JT X C c ft) (ha : JE X C a fa) (hb : JE X C b fb) : JE X C (.IfExp c a b pos) (eIf ft fa fb) := by
  refine pe_weak (pe_ifExp hc ha hb) fun σ H Q ⟨F, env, rv, env', hd, he, q⟩ => ?_
  simp only [eIf] at he
  split at he
  · rename_i e1 h1
    refine ttJ.go hd h1 fun F1 H1 s1 h1 => ?_
    rw [if_pos rfl]
    exact tJ.go h1 he fun F2 H2 w s2 h2 r2 => q F2 H2 w (s1.trans s2) h2 (r2.back s1.old)
  · rename_i e1 h1
    refine ttJ.go hd h1 fun F1 H1 s1 h1 => ?_
    rw [if_neg Bool.false_ne_true]
    exact tJ.go h1 he fun F2 H2 w s2 h2 r2 => q F2 H2 w (s1.trans s2) h2 (r2.back s1.old)
  · cases he
theorem ja_nil : JA X C 0 [] aNil := ⟨pa_weak pa_nil fun σ H Q ⟨F, env, ds, env', hd, he, q⟩ => by
  simp only [aNil] at he
  cases he
  exact q F H [] Stp.refl hd .nil, fun env ds env' h => by simp only [aNil] at h; cases h; rfl⟩
theorem ja_cons {n : Nat} (ha : JE X C e fa) (hr : JA X C n es fl) (hs : starEach (e :: es) X.env = (false, eval e X.env) :: starEach es X.env := by rfl) : JA X C (n + 1) (e :: es) (aCons fa fl) := by
  refine ⟨pa_weak (pa_cons ha hr.1 hs) fun σ H Q ⟨F, env, ds, env', hd, he, q⟩ => ?_, fun env ds env' he => ?_⟩
  · simp only [aCons] at he
    split at he
    · cases he
    rename_i x e1 h1
    split at he
    · cases he
    rename_i d e2 h2
    split at he
    · cases he
    rename_i ds' e3 h3
    cases he
    refine tJ.go hd h1 fun F1 H1 v s1 g1 r1 => ?_
    obtain ⟨F2, s2, g2, r2, _⟩ := g1.fzv hd s1 r1 h2
    refine taJ.go g2 h3 fun F3 H3 vs s3 g3 r3 => ?_
    exact q F3 H3 _ (s2.trans s3) g3 (.cons (r2.up s3.exF) r3)
  · simp only [aCons] at he
    split at he
    · cases he
    split at he
    · cases he
    split at he
    · cases he
    rename_i ds' e3 h3
    cases he
    rw [List.length_cons, hr.2 _ _ _ h3]
theorem je_tup {n : Nat} {x1} (h : JA X C n es fl) (hn : n ≤ 1000 := by decide) : JE X C (.Tuple es x1 pos) (eTup fl) := by
  refine pe_weak (pe_tupZ h.1) fun σ H Q ⟨F, env, rv, env', hd, he, q⟩ => ?_
  simp only [eTup] at he
  split at he
  · cases he
  rename_i ds e1 h1
  cases he
  refine taJ.go hd h1 fun F1 H1 vs s1 g1 r1 => ⟨?_, fun p o hp ho => ?_⟩
  · rw [r1.length, h.2 _ _ _ h1]; exact Nat.le_trans hn (by decide)
  · have hf := Same.none g1.ex hp
    exact q (upd F1 p (.frz o (.tup vs))) _ _ (s1.trans (Stp.newF g1 hp)) (g1.newF hp) (.tup ⟨o, upd_same, ho⟩ (r1.up (same_upd hf)))
theorem je_lst {n : Nat} (h : JA X C n es fl) (hn : n ≤ 1000 := by decide) : JE X C (.List es pos) (eLst fl) := by
  refine pe_weak (pe_lst h.1) fun σ H Q ⟨F, env, rv, env', hd, he, q⟩ => ?_
  simp only [eLst] at he
  split at he
  · cases he
  rename_i ds e1 h1
  cases he
  refine taJ.go hd h1 fun F1 H1 vs s1 g1 r1 => ⟨?_, fun p hp => ?_⟩
  · rw [r1.length, h.2 _ _ _ h1]; exact Nat.le_trans hn (by decide)
  · exact q F1 _ _ (s1.trans (Stp.new g1 hp)) (g1.new hp) (g1.tmNew s1 hp r1)
/-! tests -/
theorem jw_and {rest : List Expr} (ha : JT X C a ft) (hb : JW X C (.BoolOp .And (b :: rest) pos) fu) : JW X C (.BoolOp .And (a :: b :: rest) pos) (tAnd ft fu) := by
  refine pw_weak (pw_and ha hb) fun σ H Q ⟨F, env, rv, env', hd, he, q⟩ => ?_
  simp only [J.tAnd] at he
  split at he
  · rename_i e1 h1
    refine ttJ.go hd h1 fun F1 H1 s1 h1 => ?_
    rw [if_pos rfl]
    exact ttJ.go h1 he fun F2 H2 s2 h2 => q F2 H2 (s1.trans s2) h2
  · rename_i e1 h1
    cases he
    refine ttJ.go hd h1 fun F1 H1 s1 h1 => ?_
    rw [if_neg Bool.false_ne_true]
    exact q F1 H1 s1 h1
  · cases he
theorem jw_or {rest : List Expr} (ha : JT X C a ft) (hb : JW X C (.BoolOp .Or (b :: rest) pos) fu) : JW X C (.BoolOp .Or (a :: b :: rest) pos) (tOr ft fu) := by
  refine pw_weak (pw_or ha hb) fun σ H Q ⟨F, env, rv, env', hd, he, q⟩ => ?_
  simp only [J.tOr] at he
  split at he
  · rename_i e1 h1
    cases he
    refine ttJ.go hd h1 fun F1 H1 s1 h1 => ?_
    rw [if_pos rfl]
    exact q F1 H1 s1 h1
  · rename_i e1 h1
    refine ttJ.go hd h1 fun F1 H1 s1 h1 => ?_
    rw [if_neg Bool.false_ne_true]
    exact ttJ.go h1 he fun F2 H2 s2 h2 => q F2 H2 (s1.trans s2) h2
  · cases he
theorem jw_and1 (ha : JT X C a ft) : JW X C (.BoolOp .And [a] pos) ft := pw_and1 ha
theorem jw_or1 (ha : JT X C a ft) : JW X C (.BoolOp .Or [a] pos) ft := pw_or1 ha
theorem jt_w (h : JW X C e ft) : JT X C e ft := PW.pt h
theorem jt_not (ha : JT X C a ft) : JT X C (.UnaryOp .Not a pos) (tNot ft) := by
  refine pt_weak (pt_not ha) fun σ H Q ⟨F, env, rv, env', hd, he, q⟩ => ?_
  simp only [J.tNot] at he
  split at he
  · rename_i b e1 h1
    cases he
    exact ttJ.go hd h1 fun F1 H1 s1 h1 => q F1 H1 s1 h1
  · cases he
theorem VwD.tru {K : Fr} {F H : Hp} (s : Same F H) {v : V} {d : D} {b : Bool} (h : VwD F H v d) (e : truD d = some b) : TruV K v H b := by
  cases d with
  | none => cases (show Rp F v _ from h); cases e; exact rfl
  | bool _ => cases (show Rp F v _ from h); cases e; exact rfl
  | int _ => cases (show Rp F v _ from h); cases e; exact rfl
  | str _ => cases e
  | list ds =>
    obtain ⟨a, vs, rfl, h1, h2⟩ := h
    cases e
    exact .inl ⟨vs, SqL.of h1, by rw [h2.isEmpty]⟩
  | tuple ds =>
    have h' : Rp F v (.tuple ds) := h
    cases e
    cases h' with
    | tup h1 h2 => exact .inr (.inl ⟨_, (h1.up s).sq, by rw [h2.isEmpty]⟩)
  | dict _ => cases e
theorem jt_tru (ha : JE X C a fa) (he : ∀ whole, isTrue a X.env whole = (do let v ← whole; standAt a.pos; holding [v] (truthy v)) := by intro _; rfl) : JT X C a (tTru fa) := by
  refine pt_weak (pt_truth ha he) fun σ H Q ⟨F, env, rv, env', hd, he, q⟩ => ?_
  simp only [tTru] at he
  split at he
  · cases he
  rename_i x e1 h1
  split at he
  · cases he
  rename_i d h2
  split at he
  · cases he
  rename_i b h3
  cases he
  exact tJ.go hd h1 fun F1 H1 v s1 g1 r1 => ⟨rv, (g1.vw r1 h2).tru g1.ex h3, q F1 H1 s1 g1⟩
/-! subscripts, slices -/
theorem je_ix {r : R2} {g : D → D → Option Rt} (hr : IxR X r) (S : S2 r g) (ha : JE X C a fa) (hb : JE X C b fb) (hs : PlainIx b) : JE X C (.Subscript a b pos) (eOp2 g fa fb) :=
  pe_weak (pe_ix hr ha hb hs) fun σ H Q h => op2_run S h
theorem jo_no : JO X C none oNo := by
  refine ⟨fun pins s σ H Q I h => po_none.run pins s σ H Q I ?_⟩
  obtain ⟨F, env, o, env', hd, he, q⟩ := h
  simp only [oNo] at he
  cases he
  exact q F H Stp.refl hd
theorem jo_so (h : JE X C e fa) : JO X C (some e) (oSo fa) := by
  refine ⟨fun pins s σ H Q I h' => (po_some h).run pins s σ H Q I ?_⟩
  obtain ⟨F, env, o, env', hd, he, q⟩ := h'
  simp only [oSo] at he
  split at he
  · rename_i i e1 h1
    cases he
    refine tJ.go hd h1 fun F1 H1 v s1 g1 r1 => ?_
    have r1' : Rp F1 v (.int i) := r1
    cases r1'
    exact ⟨i, rfl, q F1 H1 s1 g1⟩
  · cases he
def SS (r : V → Option Int → Option Int → Hp → VK → Prop) (g : D → Option Int → Option Int → Option Rt) : Prop := ∀ F H x lo hi d rt Q, Same F H → VwD F H x d → g d lo hi = some rt → POp F H rt Q → r x lo hi H Q
theorem je_sl {r : V → Option Int → Option Int → Hp → VK → Prop} {g : D → Option Int → Option Int → Option Rt} {lo hi : Option Expr} {p2 : Pos} {gl gh : M (Option Int)} (hr : SlR X r) (S : SS r g) (ha : JE X C a fa) (hl : JO X C lo gl) (hu : JO X C hi gh) :
    JE X C (.Subscript a (.Slice lo hi none p2) pos) (eSl g fa gl gh) := by
  refine pe_weak (pe_slice hr ha hl hu) fun σ H Q ⟨F, env, rv, env', hd, he, q⟩ => ?_
  simp only [eSl] at he
  split at he
  · cases he
  rename_i x e1 h1
  split at he
  · cases he
  rename_i l e2 h2
  split at he
  · cases he
  rename_i h e3 h3
  split at he
  · cases he
  rename_i d h4
  split at he
  · cases he
  rename_i rt h5
  cases he
  refine tJ.go hd h1 fun F1 H1 v s1 g1 r1 => ⟨F1, e1, l, e2, g1, h2, fun F2 H2 s2 g2 => ⟨F2, e2, h, env', g2, h3, fun F3 H3 s3 g3 => ?_⟩⟩
  exact S F3 H3 v l h d rt Q g3.ex (g3.vw ((r1.step s2).step s3) h4) h5 (POp.end g3 ((s1.trans s2).trans s3) q)
/-! built-ins of one and two arguments -/
variable {f : Value} {x : Str} {p : Pos}
theorem ta1 {K : Fr} {g : D → Option Rt} {r : List V → Hp → VK → Prop} (S : S1 r g) {σ : St} {H : Hp} {Q : VK} (h : tJ K C (eOp1 g fa) σ H Q) : tCons (tJ K C fa) tNil σ H fun vs H1 => r vs H1 Q :=
  un_run (r := fun x H1 Q => r [x] H1 Q) (fun F H x d rt Q s v e q => S F H x d rt Q s v e q) h
theorem je_b1 {id : String} {r : List V → Hp → VK → Prop} {g : D → Option Rt} (hc : CallR X (.builtin id) r) (S : S1 r g) (hg : Gl X x) (hm : X.mg x = none) (hv : bootBuiltins x = some (.builtin id)) (ha : JE X C a fa)
    (h1 : PE X (.Call (.Name x p) [a] [] pos) (tCB r (tCons (tJ X.K C fa) tNil))) : JE X C (.Call (.Name x p) [a] [] pos) (eOp1 g fa) := pe_weak h1 fun σ H Q h => ta1 S h
/-- the same, told by the rule of the call alone -/
theorem je_b {r : List V → Hp → VK → Prop} {g : D → Option Rt} (S : S1 r g) {ce : Expr} (h1 : PE X ce (tCB r (tCons (tJ X.K C fa) tNil))) : JE X C ce (eOp1 g fa) := pe_weak h1 fun σ H Q h => ta1 S h
theorem je_bb {r : List V → Hp → VK → Prop} {g : D → D → Option Rt} (S : S12 r g) {ce : Expr} (h1 : PE X ce (tCB r (tCons (tJ X.K C fa) (tCons (tJ X.K C fb) tNil)))) : JE X C ce (eOp2 g fa fb) :=
  pe_weak h1 fun σ H Q h => op2_run (r := fun x y H1 Q => r [x, y] H1 Q) (fun F H x y d e rt Q s v w e1 q => S F H x y d e rt Q s v w e1 q) h
end
end J
namespace J
open PySem L2
section
variable {K : Fr} {C : FC} {F F' : Hp} {env env' : Env} {σ : St} {H H' : Hp}
theorem set_get_lt {α : Type} {l : List α} {i j : Nat} {x : α} (h : i < l.length) : (l.set i x)[j]? = if i = j then some x else l[j]? := by
  by_cases e : i = j
  · subst e; rw [if_pos rfl, List.getElem?_set_self h]
  · rw [if_neg e, List.getElem?_set_ne e]
theorem set_ne {env : Env} {i j : Nat} {x y : Sl} (hx : x ≠ y) (q : (env.set i x)[j]? = some y) : i ≠ j ∧ env[j]? = some y := by
  rcases set_get q with ⟨_, e2, _⟩ | ⟨ne, q⟩
  · exact absurd e2.symm hx
  · exact ⟨ne, q⟩
theorem Hd.lt (h : Hd K C F env σ H) {i : Nat} (hi : i < env.length) : i < σ.length := by rw [← h.len]; exact hi
/-- a slot is stored: frozen data -/
theorem Hd.asgF (h : Hd K C F env σ H) {i : Nat} {v : V} {d : D} (r : Rp F v d) (hm : i ∉ C.mp) : Hd K C F (env.set i (.fz d)) (σ.set i (some v)) H := by
  have get : ∀ {j : Nat}, i ≠ j → (σ.set i (some v))[j]? = σ[j]? := fun e => List.getElem?_set_ne e
  refine ⟨h.ex, by rw [List.length_set, List.length_set]; exact h.len, fun j d' q => ?_, fun j d' q => ?_, fun j d' q => ?_, fun j d' q => ?_, fun j k ds es a q1 q2 p1 p2 => ?_, h.keep, h.old, h.dom, fun k j a q1 q2 => ?_, fun j o q => ?_, fun j k o o' w w' a q1 q2 z1 z2 => ?_, fun j k o ds w a q1 q2 z1 z2 => ?_⟩
  · rcases set_get q with ⟨e, e2, hl⟩ | ⟨e, q⟩
    · subst e
      cases e2
      exact ⟨v, List.getElem?_set_self (h.lt hl), r⟩
    · rw [get e]; exact h.fz j d' q
  · rcases set_get q with ⟨_, e2, _⟩ | ⟨e, q⟩
    · cases e2
    · rw [get e]; exact h.ow j d' q
  · rcases set_get q with ⟨_, e2, _⟩ | ⟨e, q⟩
    · cases e2
    · rw [get e]; exact h.bw j d' q
  · rcases set_get q with ⟨_, e2, _⟩ | ⟨e, q⟩
    · cases e2
    · rw [get e]; exact h.sc j d' q
  · rcases set_get q1 with ⟨_, e2, _⟩ | ⟨e, q1⟩
    · cases e2
    · rcases set_get q2 with ⟨_, e2, _⟩ | ⟨e', q2⟩
      · cases e2
      · rw [get e] at p1
        rw [get e'] at p2
        exact h.inj j k ds es a q1 q2 p1 p2
  · have e : i ≠ j := fun e => hm (by rw [e]; exact List.mem_of_getElem? q1)
    rw [get e]; exact h.mps k j a q1 q2
  · obtain ⟨e, q⟩ := set_ne (by intro z; cases z) q
    rw [get e]; exact h.nt j o q
  · obtain ⟨e1, q1⟩ := set_ne (by intro z; cases z) q1
    obtain ⟨e2, q2⟩ := set_ne (by intro z; cases z) q2
    rw [get e1] at z1
    rw [get e2] at z2
    exact h.ntj j k o o' w w' a q1 q2 z1 z2
  · obtain ⟨e1, q1⟩ := set_ne (by intro z; cases z) q1
    obtain ⟨e2, q2⟩ := set_ne (by intro z; cases z) q2
    rw [get e1] at z1
    rw [get e2] at z2
    exact h.nto j k o ds w a q1 q2 z1 z2
/-- a slot is stored: a thing with parts of one's own -/
theorem Hd.asgN (h : Hd K C F env σ H) {i : Nat} {v : V} {ob : Ob} (h1 : okO F H ob v) (h4 : ∀ a ∈ foot H ob v, (C.H0 a = none ∨ a ∈ C.Mu) ∧ NotOw env σ H a) (hm : i ∉ C.mp) :
    Hd K C F (env.set i (.nt ob)) (σ.set i (some v)) H := by
  have get : ∀ {j : Nat}, i ≠ j → (σ.set i (some v))[j]? = σ[j]? := fun e => List.getElem?_set_ne e
  refine ⟨h.ex, by rw [List.length_set, List.length_set]; exact h.len, fun j d' q => ?_, fun j d' q => ?_, fun j d' q => ?_, fun j d' q => ?_, fun j k ds es a q1 q2 p1 p2 => ?_, h.keep, h.old, h.dom, fun k j a q1 q2 => ?_, fun j o q => ?_, fun j k o o' w w' a q1 q2 z1 z2 m1 m2 => ?_, fun j k o ds w a q1 q2 z1 z2 m => ?_⟩
  · obtain ⟨e, q⟩ := set_ne (by intro z; cases z) q
    rw [get e]; exact h.fz j d' q
  · obtain ⟨e, q⟩ := set_ne (by intro z; cases z) q
    rw [get e]; exact h.ow j d' q
  · obtain ⟨e, q⟩ := set_ne (by intro z; cases z) q
    rw [get e]; exact h.bw j d' q
  · obtain ⟨e, q⟩ := set_ne (by intro z; cases z) q
    rw [get e]; exact h.sc j d' q
  · obtain ⟨e1, q1⟩ := set_ne (by intro z; cases z) q1
    obtain ⟨e2, q2⟩ := set_ne (by intro z; cases z) q2
    rw [get e1] at p1
    rw [get e2] at p2
    exact h.inj j k ds es a q1 q2 p1 p2
  · have e : i ≠ j := fun e => hm (by rw [e]; exact List.mem_of_getElem? q1)
    rw [get e]; exact h.mps k j a q1 q2
  · rcases set_get q with ⟨e, e2, hl⟩ | ⟨e, q⟩
    · subst e
      cases e2
      exact ⟨v, List.getElem?_set_self (h.lt hl), h1, fun a m => (h4 a m).1⟩
    · rw [get e]; exact h.nt j o q
  · rcases set_get q1 with ⟨e, e2, hl⟩ | ⟨e, q1⟩
    · rcases set_get q2 with ⟨e', _, _⟩ | ⟨e', q2⟩
      · exact e.symm.trans e'
      · subst e
        rw [List.getElem?_set_self (h.lt hl)] at z1
        cases z1
        cases e2
        rw [get e'] at z2
        exact absurd m2 ((h4 a m1).2.nt k o' w' q2 z2)
    · rw [get e] at z1
      rcases set_get q2 with ⟨e', e2, hl⟩ | ⟨e', q2⟩
      · subst e'
        rw [List.getElem?_set_self (h.lt hl)] at z2
        cases z2
        cases e2
        exact absurd m1 ((h4 a m2).2.nt j o w q1 z1)
      · rw [get e'] at z2
        exact h.ntj j k o o' w w' a q1 q2 z1 z2 m1 m2
  · obtain ⟨e2, q2⟩ := set_ne (by intro z; cases z) q2
    rw [get e2] at z2
    rcases set_get q1 with ⟨e, e3, hl⟩ | ⟨e, q1⟩
    · subst e
      rw [List.getElem?_set_self (h.lt hl)] at z1
      cases z1
      cases e3
      exact (h4 a m).2.ow k ds q2 z2
    · rw [get e] at z1
      exact h.nto j k o ds w a q1 q2 z1 z2 m
/-- a slot is stored: a list of one's own -/
theorem Hd.asgO (h : Hd K C F env σ H) {i : Nat} {a : Addr} {vs : List V} {ds : List D} (h1 : H a = some (.lst vs)) (h2 : F a = none) (h3 : RpA F vs ds) (h4 : C.H0 a = none ∨ a ∈ C.Mu) (h5 : NotOw env σ H a) (hm : i ∉ C.mp) :
    Hd K C F (env.set i (.ow ds)) (σ.set i (some (V.ref a))) H := by
  have get : ∀ {j : Nat}, i ≠ j → (σ.set i (some (V.ref a)))[j]? = σ[j]? := fun e => List.getElem?_set_ne e
  refine ⟨h.ex, by rw [List.length_set, List.length_set]; exact h.len, fun j d' q => ?_, fun j d' q => ?_, fun j d' q => ?_, fun j d' q => ?_, fun j k ds' es b q1 q2 p1 p2 => ?_, h.keep, h.old, h.dom, fun k j b q1 q2 => ?_, fun j o q => ?_, fun j k o o' w w' a q1 q2 z1 z2 => ?_, fun j k o ds w b q1 q2 z1 z2 m => ?_⟩
  · rcases set_get q with ⟨_, e2, _⟩ | ⟨e, q⟩
    · cases e2
    · rw [get e]; exact h.fz j d' q
  · rcases set_get q with ⟨e, e2, hl⟩ | ⟨e, q⟩
    · subst e
      cases e2
      exact ⟨a, vs, List.getElem?_set_self (h.lt hl), h1, h2, h3, h4⟩
    · rw [get e]; exact h.ow j d' q
  · rcases set_get q with ⟨_, e2, _⟩ | ⟨e, q⟩
    · cases e2
    · rw [get e]; exact h.bw j d' q
  · rcases set_get q with ⟨_, e2, _⟩ | ⟨e, q⟩
    · cases e2
    · rw [get e]; exact h.sc j d' q
  · rcases set_get q1 with ⟨e, e2, hl⟩ | ⟨e, q1⟩
    · rcases set_get q2 with ⟨e', _, _⟩ | ⟨e', q2⟩
      · exact e.symm.trans e'
      · subst e
        rw [List.getElem?_set_self (h.lt hl)] at p1
        cases p1
        rw [get e'] at p2
        exact absurd p2 (h5.ow k es q2)
    · rcases set_get q2 with ⟨e', _, hl⟩ | ⟨e', q2⟩
      · subst e'
        rw [List.getElem?_set_self (h.lt hl)] at p2
        cases p2
        rw [get e] at p1
        exact absurd p1 (h5.ow j ds' q1)
      · rw [get e] at p1
        rw [get e'] at p2
        exact h.inj j k ds' es b q1 q2 p1 p2
  · have e : i ≠ j := fun e => hm (by rw [e]; exact List.mem_of_getElem? q1)
    rw [get e]; exact h.mps k j b q1 q2
  · obtain ⟨e, q⟩ := set_ne (by intro z; cases z) q
    rw [get e]; exact h.nt j o q
  · obtain ⟨e1, q1⟩ := set_ne (by intro z; cases z) q1
    obtain ⟨e2, q2⟩ := set_ne (by intro z; cases z) q2
    rw [get e1] at z1
    rw [get e2] at z2
    exact h.ntj j k o o' w w' a q1 q2 z1 z2
  · obtain ⟨e1, q1⟩ := set_ne (by intro z; cases z) q1
    rw [get e1] at z1
    rcases set_get q2 with ⟨e2, _, hl⟩ | ⟨e2, q2⟩
    · subst e2
      rw [List.getElem?_set_self (h.lt hl)] at z2
      cases z2
      exact h5.nt j o w q1 z1 m
    · rw [get e2] at z2
      exact h.nto j k o ds w b q1 q2 z1 z2 m
/-- a list of one's own is changed -/
theorem Hd.write (h : Hd K C F env σ H) {i : Nat} {a : Addr} {vs' : List V} {ds ds' : List D} (hi : env[i]? = some (.ow ds)) (hv : σ[i]? = some (some (V.ref a))) (r : RpA F vs' ds') :
    Hd K C F (env.set i (.ow ds')) σ (upd H a (.lst vs')) ∧ Stp F env σ H F (env.set i (.ow ds')) (upd H a (.lst vs')) := by
  obtain ⟨b, ws, g1, g2, g3, g4, g5⟩ := h.ow i ds hi
  rw [hv] at g1; cases g1
  have back : ∀ (j : Nat) (es : List D), (env.set i (.ow ds'))[j]? = some (.ow es) → ∃ es', env[j]? = some (.ow es') := fun j es q => by
    rcases set_get q with ⟨e, _, _⟩ | ⟨_, q⟩
    · subst e; exact ⟨ds, hi⟩
    · exact ⟨es, q⟩
  have kp : ∀ {j : Nat} {o : Ob} {w : V}, env[j]? = some (.nt o) → σ[j]? = some (some w) → foot (upd H a (.lst vs')) o w = foot H o w := fun {j o w} q z =>
    foot_keep o w fun b m => upd_ne fun e => h.nto j i o ds w a q hi z hv (by rw [← e]; exact m)
  refine ⟨⟨fun b u q => ?_, by rw [List.length_set]; exact h.len, fun j d' q => ?_, fun j d' q => ?_, fun j d' q => ?_, fun j d' q => ?_, fun j k ds' es b q1 q2 p1 p2 => ?_, fun b u q n => ?_, fun b q => h.old b (upd_none q).2, h.dom, h.mps, fun j o q => ?_, fun j k o o' w w' b q1 q2 z1 z2 m1 m2 => ?_, fun j k o ds w b q1 q2 z1 z2 m => ?_⟩, Same.refl F, fun b u q1 q2 n => ⟨q1, ?_⟩, back, fun b q => (upd_none q).2, fun j o q1 => ?_⟩
  · rw [upd_ne (ne_of_none q g3)]; exact h.ex b u q
  · rcases set_get q with ⟨_, e2, _⟩ | ⟨_, q⟩
    · cases e2
    · exact h.fz j d' q
  · rcases set_get q with ⟨e, e2, _⟩ | ⟨e, q⟩
    · subst e
      cases e2
      exact ⟨a, vs', hv, upd_same, g3, r, g5⟩
    · obtain ⟨b, ws', p1, p2, p3⟩ := h.ow j d' q
      have ne : b ≠ a := fun z => e (h.inj i j ds d' a hi q hv (by rw [← z]; exact p1))
      exact ⟨b, ws', p1, by rw [upd_ne ne]; exact p2, p3⟩
  · rcases set_get q with ⟨_, e2, _⟩ | ⟨_, q⟩
    · cases e2
    · exact h.bw j d' q
  · rcases set_get q with ⟨_, e2, _⟩ | ⟨_, q⟩
    · cases e2
    · exact h.sc j d' q
  · obtain ⟨_, z1⟩ := back j ds' q1
    obtain ⟨_, z2⟩ := back k es q2
    exact h.inj j k _ _ b z1 z2 p1 p2
  · have ne : b ≠ a := by
      rintro rfl
      rcases g5 with z | z
      · rw [z] at q; cases q
      · exact n z
    rw [upd_ne ne]; exact h.keep b u q n
  · obtain ⟨_, q⟩ := set_ne (by intro z; cases z) q
    obtain ⟨w, z1, z2, z3⟩ := h.nt j o q
    refine ⟨w, z1, okO_keep (Same.refl F) o w z2 fun b m => ⟨upd_ne fun e => h.nto j i o ds w a q hi z1 hv (by rw [← e]; exact m), (okO_at o w z2 b m).2⟩, ?_⟩
    rw [kp q z1]; exact z3
  · obtain ⟨_, q1⟩ := set_ne (by intro z; cases z) q1
    obtain ⟨_, q2⟩ := set_ne (by intro z; cases z) q2
    rw [kp q1 z1] at m1
    rw [kp q2 z2] at m2
    exact h.ntj j k o o' w w' b q1 q2 z1 z2 m1 m2
  · obtain ⟨_, q1⟩ := set_ne (by intro z; cases z) q1
    obtain ⟨_, q2⟩ := back k ds q2
    rw [kp q1 z1] at m
    exact h.nto j k o _ w b q1 q2 z1 z2 m
  · have ne : b ≠ a := fun z => n.ow i ds hi (by rw [z]; exact hv)
    rw [upd_ne ne]; exact q2
  · obtain ⟨_, q1⟩ := set_ne (by intro z; cases z) q1
    exact ⟨o, q1, fun w b z1 m _ => by rw [kp q1 z1] at m; exact m⟩
theorem Hd.forget (h : Hd K C F env σ H) (i : Nat) : Hd K C F (env.set i .no) σ H :=
  h.put (fun _ z => nomatch z) (fun _ z => nomatch z) (fun _ z => nomatch z) fun _ z => nomatch z
theorem Hd.ers (h : Hd K C F env σ H) : ∀ (er : List Nat), Hd K C F (ers er env) σ H := fun er => by
  induction er generalizing env with
  | nil => exact h
  | cons i r ih => exact ih (h.forget i)
end
section
variable {X : Cx} {C : FC} {a b c e : Expr} {es : List Expr} {pos : Pos} {fa fb fc f : M RV} {ft fu : M Bool} {fl : M (List D)} {st : Stmt} {sts : List Stmt} {s1 s2 : SM}
theorem sJ.go {K : Fr} {F : Hp} {env : Env} {σ : St} {H : Hp} {f : SM} {fl : Fl} {D' : Ends} (h : Hd K C F env σ H) (e : f env = some fl) (q : PostJ K C F D' fl) : sJ K C f D' σ H := ⟨F, env, fl, h, e, q⟩
theorem jss_nil : JSs X C [] sNil := pss_weak pss_nil fun D' σ H ⟨F, env, fl, hd, he, q⟩ => by
  simp only [sNil] at he
  cases he
  exact q F σ H (Same.refl F) hd
theorem seq_run {K : Fr} {t u : SM} {D' : Ends} {σ : St} {H : Hp} (h : sJ K C (sSeq t u) D' σ H) : tSeq (sJ K C t) (sJ K C u) D' σ H := by
  obtain ⟨F, env, fl, hd, he, q⟩ := h
  simp only [sSeq] at he
  split at he
  · rename_i e1 h1
    exact sJ.go hd h1 fun F1 σ1 H1 sm g1 => sJ.go g1 he (q.up sm)
  · rename_i r hr
    refine sJ.go hd he ?_
    cases fl with
    | nx e1 => exact absurd he (hr e1)
    | bk e1 => exact q
    | ct e1 => exact q
    | rt r e1 => exact q
    | ex c e1 => exact q
theorem jss_cons (h1 : JS X C st s1) (h2 : JSs X C sts s2) : JSs X C (st :: sts) (sSeq s1 s2) := pss_weak (pss_cons h1 h2) fun D' σ H h => seq_run h
theorem jss_one (h1 : JS X C st s1) : JSs X C [st] s1 := pss_one h1
theorem js_pass : JS X C (.Pass pos) sNil := ps_weak ps_pass fun D' σ H ⟨F, env, fl, hd, he, q⟩ => by
  simp only [sNil] at he
  cases he
  exact q F σ H (Same.refl F) hd
theorem js_break : JS X C (.Break pos) sBk := ps_weak ps_break fun D' σ H ⟨F, env, fl, hd, he, q⟩ => by
  simp only [sBk] at he
  cases he
  exact q F σ H (Same.refl F) hd
theorem js_cont : JS X C (.Continue pos) sCt := ps_weak ps_continue fun D' σ H ⟨F, env, fl, hd, he, q⟩ => by
  simp only [sCt] at he
  cases he
  exact q F σ H (Same.refl F) hd
/-- x = e; h by ps_set -/
theorem js_asg {i : Nat} {mp : List Nat} (hc : C.mp = mp) (hm : i ∉ mp) (h : PS X st (tAsg (tJ X.K C f) (gName i))) : JS X C st (sAsg i f) := by
  subst hc
  refine ps_weak h fun D' σ H ⟨F, env, fl, hd, he, q⟩ => ?_
  simp only [sAsg] at he
  split at he
  · cases he
  · rename_i d e1 h1
    cases he
    exact tJ.go hd h1 fun F1 H1 v s1 g1 r1 => q F1 _ H1 s1.exF (g1.asgF r1 hm)
  · rename_i ds e1 h1
    cases he
    refine tJ.go hd h1 fun F1 H1 v s1 g1 r1 => ?_
    obtain ⟨a, vs, rfl, p1, p2, p3, p4, p5⟩ := r1
    exact q F1 _ H1 s1.exF (g1.asgO p1 p2 p3 (.inl (hd.old a p4)) p5 hm)
  · rename_i o e1 h1
    cases he
    exact tJ.go hd h1 fun F1 H1 v s1 g1 r1 => q F1 _ H1 s1.exF (g1.asgN r1.1 (fun a m => ⟨.inl (hd.old a (r1.2 a m).1), (r1.2 a m).2⟩) hm)
  · rename_i j e1 h1
    split at he
    · cases he
    rename_i d e2 h2
    cases he
    refine tJ.go hd h1 fun F1 H1 v s1 g1 r1 => ?_
    obtain ⟨F2, s2, g2, r2, _⟩ := g1.fzv hd s1 r1 h2
    exact q F2 _ H1 s2.exF (g2.asgF r2 hm)
theorem js_drop (h : PS X st (tDrop (tJ X.K C f))) : JS X C st (sDrop f) := ps_weak h fun D' σ H ⟨F, env, fl, hd, he, q⟩ => by
  simp only [sDrop] at he
  split at he
  · cases he
  · rename_i r e1 h1
    cases he
    exact tJ.go hd h1 fun F1 H1 v s1 g1 r1 => q F1 _ H1 s1.exF g1
theorem js_if {bs cs : List Stmt} (hc : JT X C c ft) (ha : JSs X C bs s1) (hb : JSs X C cs s2) : JS X C (.If c bs cs pos) (sIf ft s1 s2) := by
  refine ps_weak (ps_if hc ha hb) fun D' σ H ⟨F, env, fl, hd, he, q⟩ => ?_
  simp only [sIf] at he
  split at he
  · rename_i e1 h1
    refine ttJ.go hd h1 fun F1 H1 s1 g1 => ?_
    rw [if_pos rfl]
    exact sJ.go g1 he (q.up s1.exF)
  · rename_i e1 h1
    refine ttJ.go hd h1 fun F1 H1 s1 g1 => ?_
    rw [if_neg Bool.false_ne_true]
    exact sJ.go g1 he (q.up s1.exF)
  · cases he
theorem js_ret (ha : JE X C a f) : JS X C (.Return (some a) pos) (sRet f) := by
  refine ps_weak (ps_ret ha) fun D' σ H ⟨F, env, fl, hd, he, q⟩ => ?_
  simp only [sRet] at he
  split at he
  · cases he
  · rename_i d e1 h1
    cases he
    exact tJ.go hd h1 fun F1 H1 v s1 g1 r1 => q F1 _ H1 v s1.exF g1 r1
  · rename_i ds e1 h1
    cases he
    refine tJ.go hd h1 fun F1 H1 v s1 g1 r1 => ?_
    obtain ⟨a, vs, rfl, p1, p2, p3, p4, p5⟩ := r1
    exact q F1 _ H1 _ s1.exF g1 ⟨a, vs, rfl, p1, p2, p3, .inl (hd.old a p4), p5⟩
  · rename_i o e1 h1
    cases he
    exact tJ.go hd h1 fun F1 H1 v s1 g1 r1 => q F1 _ H1 _ s1.exF g1 ⟨r1.1, fun a m => ⟨.inl (hd.old a (r1.2 a m).1), (r1.2 a m).2⟩⟩
  · rename_i i e1 h1
    split at he
    · rename_i d h2
      cases he
      refine tJ.go hd h1 fun F1 H1 v s1 g1 r1 => ?_
      obtain ⟨w, z1, z2⟩ := g1.fz i d h2
      have r1' : σ[i]? = some (some v) := r1
      rw [r1'] at z1; cases z1
      exact q F1 _ H1 v s1.exF g1 z2
    · rename_i ds h2
      cases he
      refine tJ.go hd h1 fun F1 H1 v s1 g1 r1 => ?_
      have r1' : σ[i]? = some (some v) := r1
      obtain ⟨a, vs, z1, z2, z3, z4, z5⟩ := g1.ow i ds h2
      rw [r1'] at z1; cases z1
      refine q F1 _ H1 _ s1.exF (g1.forget i) ⟨a, vs, rfl, z2, z3, z4, z5, fun j es p z => ?_, fun j o w p z => ?_⟩
      · obtain ⟨ne, p⟩ := set_ne (by intro z; cases z) p
        exact ne (g1.inj i j ds es a h2 p r1' z)
      · obtain ⟨ne, p⟩ := set_ne (by intro z; cases z) p
        exact g1.nto j i o ds w a p h2 z r1'
    · rename_i o h2
      cases he
      refine tJ.go hd h1 fun F1 H1 v s1 g1 r1 => ?_
      have r1' : σ[i]? = some (some v) := r1
      obtain ⟨z1, z2⟩ := g1.footN h2 r1'
      refine q F1 _ H1 _ s1.exF (g1.forget i) ⟨z1, fun a m => ⟨z2 a m, fun j es p z => ?_, fun j o' w p z m' => ?_⟩⟩
      · obtain ⟨ne, p⟩ := set_ne (by intro z; cases z) p
        exact g1.nto i j o es v a h2 p r1' z m
      · obtain ⟨ne, p⟩ := set_ne (by intro z; cases z) p
        exact ne (g1.ntj i j o o' v w a h2 p r1' z m m')
    · cases he
theorem js_retN : JS X C (.Return none pos) sRetN := ps_weak ps_retN fun D' σ H ⟨F, env, fl, hd, he, q⟩ => by
  simp only [sRetN] at he
  cases he
  exact q F σ H .non (Same.refl F) hd .non
/-- x.append(e) -/
theorem js_app {i : Nat} (h : PS X st (tDrop (tBM X.K "list" rAppend (tVar i) (tCons (tJ X.K C f) tNil)))) : JS X C st (sApp i f) := by
  refine ps_weak h fun D' σ H ⟨F, env, fl, hd, he, q⟩ => ?_
  simp only [sApp] at he
  split at he
  · rename_i ds0 h0
    split at he
    · cases he
    rename_i x e1 h1
    split at he
    · cases he
    rename_i d e2 h2
    split at he
    · rename_i ds h3
      split at he
      · rename_i hlen
        cases he
        obtain ⟨a, vs0, p1, p2, _⟩ := hd.ow i ds0 h0
        refine ⟨_, p1, .inl ⟨rfl, _, SqL.of p2⟩, tJ.go hd h1 fun F1 H1 v s1 g1 r1 => ?_⟩
        obtain ⟨F2, s2, g2, r2, _⟩ := g1.fzv hd s1 r1 h2
        obtain ⟨b, vs, q1, q2, q3, q4, q5⟩ := g2.ow i ds h3
        rw [p1] at q1; cases q1
        refine ⟨_, vs, v, rfl, rfl, q2, by rw [q4.length]; exact hlen, ?_⟩
        exact q F2 σ _ s2.exF (g2.write h3 p1 (q4.append (.cons r2 .nil))).1
      · cases he
    · cases he
  · cases he
/-- x.extend(e) -/
theorem js_ext {i : Nat} {r : V → List V → Hp → VK → Prop} (S : ∀ F H l y vs (ds : List D) d es (Q : VK), Same F H → VwD F H y d → seqD d = some es → H l = some (.lst vs) → vs.length = ds.length → ds.length + es.length ≤ limit → (∀ ws, RpA F ws es → Q .non (upd H l (.lst (vs ++ ws)))) → r (.ref l) [y] H Q)
    (h : PS X st (tDrop (tBM X.K "list" r (tVar i) (tCons (tJ X.K C f) tNil)))) : JS X C st (sExt i f) := by
  refine ps_weak h fun D' σ H ⟨F, env, fl, hd, he, q⟩ => ?_
  simp only [sExt] at he
  split at he
  · rename_i ds0 h0
    split at he
    · cases he
    rename_i x e1 h1
    split at he
    · cases he
    rename_i d h2
    split at he
    · cases he
    rename_i es h4
    split at he
    · rename_i ds h3
      split at he
      · rename_i hlen
        cases he
        obtain ⟨a, vs0, p1, p2, _⟩ := hd.ow i ds0 h0
        refine ⟨_, p1, .inl ⟨rfl, _, SqL.of p2⟩, tJ.go hd h1 fun F1 H1 v s1 g1 r1 => ?_⟩
        obtain ⟨b, vs, q1, q2, q3, q4, q5⟩ := g1.ow i ds h3
        rw [p1] at q1; cases q1
        refine S F1 H1 a v vs ds d es _ g1.ex (g1.vw r1 h2) h4 q2 q4.length hlen fun ws rw' => ?_
        exact q F1 σ _ s1.exF (g1.write h3 p1 (q4.append rw')).1
      · cases he
    · cases he
  · cases he
/-- x.pop() -/
theorem je_pop {i : Nat} (h : PE X e (tBM0 X.K "list" rPop (tVar i))) : JE X C e (ePop i) := by
  refine pe_weak h fun σ H Q ⟨F, env, rv, env', hd, he, q⟩ => ?_
  simp only [ePop] at he
  split at he
  · rename_i ds h3
    split at he
    · rename_i d h4
      cases he
      obtain ⟨a, vs, p1, p2, p3, p4, p5⟩ := hd.ow i ds h3
      obtain ⟨v, z1, z2⟩ := p4.last h4
      obtain ⟨w1, w2⟩ := hd.write h3 p1 p4.dropLast
      exact ⟨_, p1, .inl ⟨rfl, _, SqL.of p2⟩, _, vs, v, rfl, rfl, p2, z1, q F _ v w2 w1 z2⟩
    · cases he
  · cases he
/-- x[k] = e -/
theorem js_set {i : Nat} {fi : M RV} (h : PS X st (tAsg (tJ X.K C f) (gSub (tVar i) (tJ X.K C fi) rSetL))) : JS X C st (sSet i fi f) := by
  refine ps_weak h fun D' σ H ⟨F, env, fl, hd, he, q⟩ => ?_
  simp only [sSet] at he
  split at he
  · cases he
  rename_i x e1 h1
  split at he
  · cases he
  rename_i d e2 h2
  split at he
  · rename_i ds0 h0
    split at he
    · rename_i k e3 h3
      split at he
      · rename_i ds h4
        split at he
        · rename_i j h5
          cases he
          refine tJ.go hd h1 fun F1 H1 v s1 g1 r1 => ?_
          obtain ⟨F2, s2, g2, r2, _⟩ := g1.fzv hd s1 r1 h2
          obtain ⟨a, vs0, p1, p2, _⟩ := g2.ow i ds0 h0
          refine ⟨_, p1, tJ.go g2 h3 fun F3 H3 w s3 g3 r3 => ?_⟩
          have r3' : Rp F3 w (.int k) := r3
          cases r3'
          obtain ⟨b, vs, q1, q2, q3, q4, q5⟩ := g3.ow i ds h4
          rw [p1] at q1; cases q1
          refine ⟨_, vs, k, j, rfl, rfl, q2, by rw [q4.length]; exact h5, ?_⟩
          exact q F3 σ _ (s2.exF.trans s3.exF) (g3.write h4 p1 (RpA.set j (r2.up s3.exF) q4)).1
        · cases he
      · cases he
    · cases he
  · cases he
/-! ### targets -/
def tgJ (K : Fr) (C : FC) (sl : List Nat) (g : G) : TG := fun v σ H Q => ∃ F env d env', Hd K C F env σ H ∧ Rp F v d ∧ g d env = some env' ∧
  ∀ σ', σ'.length = σ.length → (∀ i, i ∉ sl → σ'[i]? = σ[i]?) → Hd K C F env' σ' H → Q σ' H
def tgsJ (K : Fr) (C : FC) (sl : List Nat) (g : GL) : TGs := fun vs σ H Q => ∃ F env ds env', Hd K C F env σ H ∧ RpA F vs ds ∧ g ds env = some env' ∧
  ∀ σ', σ'.length = σ.length → (∀ i, i ∉ sl → σ'[i]? = σ[i]?) → Hd K C F env' σ' H → Q σ' H
structure NoNew (env env' : Env) : Prop where
  ow : ∀ (i : Nat) (ds : List D), env'[i]? = some (.ow ds) → env[i]? = some (.ow ds)
  nt : ∀ (i : Nat) (o : Ob), env'[i]? = some (.nt o) → env[i]? = some (.nt o)
def JG (X : Cx) (C : FC) (sl : List Nat) (tg : Expr) (g : G) : Prop := PG X tg (tgJ X.K C sl g) ∧ ∀ d env env', g d env = some env' → NoNew env env'
def JGs (X : Cx) (C : FC) (sl : List Nat) (n : Nat) (tg : List Expr) (g : GL) : Prop := PGs X tg (tgsJ X.K C sl g) ∧ ∀ ds env env', g ds env = some env' → ds.length = n ∧ NoNew env env'
theorem pg_weak {tg : Expr} {t u : TG} (h : PG X tg t) (w : ∀ v σ H Q, u v σ H Q → t v σ H Q) : PG X tg u := ⟨fun pins s σ H v x Q I r q => h.run pins s σ H v x Q I r (w v σ H Q q)⟩
theorem pgs_weak {tg : List Expr} {t u : TGs} (h : PGs X tg t) (w : ∀ v σ H Q, u v σ H Q → t v σ H Q) : PGs X tg u := ⟨fun pins s σ H v x Q I r q => h.run pins s σ H v x Q I r (w v σ H Q q)⟩
theorem jg_nm {i : Nat} {mp sl : List Nat} {tg : Expr} (hc : C.mp = mp) (hm : i ∉ mp) (hs : i ∈ sl) (h : PG X tg (gName i)) : JG X C sl tg (gNm i) := by
  subst hc
  refine ⟨pg_weak h fun v σ H Q ⟨F, env, d, env', hd, r, e, q⟩ => ?_, fun d env env' e => ?_⟩
  · simp only [gNm] at e
    cases e
    exact q _ (List.length_set ..) (fun j hj => List.getElem?_set_ne fun z => hj (by rw [← z]; exact hs)) (hd.asgF r hm)
  · simp only [gNm] at e
    cases e
    exact ⟨fun j es p => (set_ne (by intro z; cases z) p).2, fun j es p => (set_ne (by intro z; cases z) p).2⟩
theorem jgs_nil {sl : List Nat} : JGs X C sl 0 [] glNil := by
  refine ⟨pgs_weak pgs_nil fun v σ H Q ⟨F, env, ds, env', hd, r, e, q⟩ => ?_, fun ds env env' e => ?_⟩
  · cases ds with
    | nil =>
      simp only [glNil] at e
      cases e
      cases r
      exact ⟨rfl, q _ rfl (fun _ _ => rfl) hd⟩
    | cons d ds => simp only [glNil] at e; cases e
  · cases ds with
    | nil =>
      simp only [glNil] at e
      cases e
      exact ⟨rfl, fun _ _ p => p, fun _ _ p => p⟩
    | cons d ds => simp only [glNil] at e; cases e
theorem jgs_cons {sl : List Nat} {n : Nat} {t : Expr} {ts : List Expr} {g : G} {gr : GL} (h1 : JG X C sl t g) (h2 : JGs X C sl n ts gr) (hs : (assignEach (t :: ts) X.env).map (·.2) = assign t X.env :: (assignEach ts X.env).map (·.2) := by rfl) : JGs X C sl (n + 1) (t :: ts) (glCons g gr) := by
  refine ⟨pgs_weak (pgs_cons h1.1 h2.1 hs) fun v σ H Q ⟨F, env, ds, env', hd, r, e, q⟩ => ?_, fun ds env env' e => ?_⟩
  · cases ds with
    | nil => simp only [glCons] at e; cases e
    | cons d ds =>
      simp only [glCons] at e
      split at e
      · rename_i e1 he1
        cases r with
        | cons r1 r2 =>
          refine ⟨_, _, rfl, F, env, d, e1, hd, r1, he1, fun σ1 l1 k1 g1 => ⟨F, e1, ds, env', g1, r2, e, fun σ2 l2 k2 g2 => ?_⟩⟩
          exact q σ2 (l2.trans l1) (fun i hi => (k2 i hi).trans (k1 i hi)) g2
      · cases e
  · cases ds with
    | nil => simp only [glCons] at e; cases e
    | cons d ds =>
      simp only [glCons] at e
      split at e
      · rename_i e1 he1
        obtain ⟨l, k⟩ := h2.2 _ _ _ e
        exact ⟨by rw [List.length_cons, l], fun i es p => (h1.2 _ _ _ he1).ow i es (k.ow i es p), fun i es p => (h1.2 _ _ _ he1).nt i es (k.nt i es p)⟩
      · cases e
theorem jg_tp {sl : List Nat} {n : Nat} {ts : List Expr} {g : GL} {k : Nat} (hcm : X.calm = true) (h : JGs X C sl n ts g) (hn : (assignEach ts X.env).length = n := by rfl) (hst : (assignEach ts X.env).findIdx? (·.1) = none := by rfl) : JG X C sl (.Tuple ts k pos) (gTp g) := by
  refine ⟨pg_weak (pg_tup hcm h.1 hn hst) fun v σ H Q ⟨F, env, d, env', hd, r, e, q⟩ => ?_, fun d env env' e => ?_⟩
  · cases d with
    | tuple ds =>
      simp only [gTp] at e
      cases r with
      | tup h1 h2 => exact ⟨_, _, rfl, (h1.up hd.ex).sq, by rw [h2.length]; exact (h.2 _ _ _ e).1, F, env, ds, env', hd, h2, e, q⟩
    | _ => simp only [gTp] at e; cases e
  · cases d with
    | tuple ds =>
      simp only [gTp] at e
      exact (h.2 _ _ _ e).2
    | _ => simp only [gTp] at e; cases e
/-- target = e; h by ps_asg -/
theorem js_unp {sl : List Nat} {g : G} (h : PS X st (tAsg (tJ X.K C f) (tgJ X.K C sl g))) : JS X C st (sUnp g f) := by
  refine ps_weak h fun D' σ H ⟨F, env, fl, hd, he, q⟩ => ?_
  simp only [sUnp] at he
  split at he
  · cases he
  rename_i x e1 h1
  split at he
  · cases he
  rename_i d e2 h2
  split at he
  · rename_i e3 h3
    cases he
    refine tJ.go hd h1 fun F1 H1 v s1 g1 r1 => ?_
    obtain ⟨F2, s2, g2, r2, _⟩ := g1.fzv hd s1 r1 h2
    exact ⟨F2, e2, d, e3, g2, r2, h3, fun σ' _ _ g' => q F2 σ' H1 s2.exF g'⟩
  · cases he
/-! ### while -/
theorem js_while {bs : List Stmt} {n : Nat} {er : List Nat} (hp : PassesOwn (model X.prog X.w) X.A X.env X.xe) (hc : JT X C c ft) (hb : JSs X C bs s1) : JS X C (.While c bs [] pos) (sWhile n er ft s1) := by
  refine ps_weak (ps_while hp hc hb) fun D' σ H ⟨F, env, fl, hd, he, q⟩ => ?_
  simp only [sWhile] at he
  refine ⟨fun m σ H => ∃ F1 env, Same F F1 ∧ Hd X.K C F1 env σ H ∧ runWhile ft s1 er m env = some fl, ⟨n, F, _, Same.refl F, hd.ers er, he⟩, ?_⟩
  rintro m σ1 H1 ⟨F1, env1, sm, g1, h1⟩
  cases m with
  | zero => simp only [runWhile] at h1; cases h1
  | succ m =>
    simp only [runWhile] at h1
    split at h1
    · cases h1
    · rename_i e1 h2
      cases h1
      refine ttJ.go g1 h2 fun F2 H2 s2 g2 => ?_
      rw [if_neg Bool.false_ne_true]
      exact q F2 _ _ (sm.trans s2.exF) g2
    · rename_i e1 h2
      refine ttJ.go g1 h2 fun F2 H2 s2 g2 => ?_
      rw [if_pos rfl]
      have sm2 := sm.trans s2.exF
      refine ⟨fun σ' H' => ∃ F1 env, Same F F1 ∧ Hd X.K C F1 env σ' H' ∧ runWhile ft s1 er m env = some fl, fun σ' H' z => ⟨m, Nat.lt_succ_self m, z⟩, ?_⟩
      split at h1
      · rename_i e2 h3
        exact sJ.go g2 h3 fun F3 σ3 H3 s3 g3 => ⟨F3, _, sm2.trans s3, g3.ers er, h1⟩
      · rename_i e2 h3
        exact sJ.go g2 h3 fun F3 σ3 H3 s3 g3 => ⟨F3, _, sm2.trans s3, g3.ers er, h1⟩
      · rename_i e2 h3
        cases h1
        exact sJ.go g2 h3 fun F3 σ3 H3 s3 g3 => q F3 σ3 H3 (sm2.trans s3) (g3.ers er)
      · rename_i r e2 h3
        cases h1
        exact sJ.go g2 h3 (q.up sm2)
      · rename_i c e2 h3
        cases h1
        exact sJ.go g2 h3 (q.up sm2)
      · cases h1
/-! ### what a loop walks -/
/-- the iterator J goes over the items ds in every state that keeps F0 -/
def Wk (K : Fr) (C : FC) (F0 : Hp) (J : L2.It) (ds : List D) : Prop := ∀ (F : Hp) (env : Env) (σ : St) (H : Hp), Same F0 F → Hd K C F env σ H →
  (∀ i, ds.length ≤ i → J.stop i H) ∧ ∀ (i : Nat) (d : D), ds[i]? = some d → J.go i H ∧ ∀ x H', J.yld i H x H' → ∃ F', Hd K C F' env σ H' ∧ Stp F env σ H F' env H' ∧ Rp F' x d
def tiJ (K : Fr) (C : FC) (it : M (List D)) : TI := fun σ H R => ∃ F env ds env', Hd K C F env σ H ∧ it env = some (ds, env') ∧
  ∀ F' H' J, Stp F env σ H F' env' H' → Hd K C F' env' σ H' → Wk K C F' J ds → R J H'
def JI (X : Cx) (C : FC) (tg iter : Expr) (it : M (List D)) : Prop := PI X tg iter (tiJ X.K C it)
theorem js_for {bs : List Stmt} {tg iter : Expr} {er sl : List Nat} {g : G} {it : M (List D)} (hp : PassesOwn (model X.prog X.w) X.A X.env X.xe) (hcm : X.calm = true) (hi : JI X C tg iter it) (hg : JG X C sl tg g) (hb : JSs X C bs s1)
    (hs : ∀ x, foldedSetIterable iter X.env x = pure x := by intro _; rfl) : JS X C (.For tg iter bs [] pos) (sFor er g it s1) := by
  refine ps_weak (ps_for hp hcm hi hg.1 hb hs) fun D' σ H ⟨F, env, fl, hd, he, q⟩ => ?_
  simp only [sFor] at he
  split at he
  · cases he
  rename_i ds e1 h1
  refine ⟨F, env, ds, e1, hd, h1, fun F1 H1 J s1' g1 wk => ?_⟩
  refine ⟨fun i m σ H => m = ds.length - i ∧ i ≤ ds.length ∧ ∃ F env, Same F1 F ∧ Hd X.K C F env σ H ∧ runFor g s1 er (ds.drop i) env = some fl, ⟨_, rfl, Nat.zero_le _, F1, _, Same.refl F1, g1.ers er, he⟩, ?_⟩
  rintro i m σ2 H2 ⟨rfl, hi', F2, env2, sm2, g2, h2⟩
  obtain ⟨w1, w2⟩ := wk F2 env2 σ2 H2 sm2 g2
  rcases Nat.lt_or_ge i ds.length with hlt | hge
  · refine .inr ?_
    have hd' : ds[i]? = some ds[i] := List.getElem?_eq_getElem hlt
    rw [List.drop_eq_getElem_cons hlt] at h2
    obtain ⟨w3, w4⟩ := w2 i _ hd'
    simp only [runFor] at h2
    split at h2
    · cases h2
    rename_i e2 h3
    refine ⟨w3, fun σ' H' => ∃ F env, Same F1 F ∧ Hd X.K C F env σ' H' ∧ runFor g s1 er (ds.drop (i + 1)) env = some fl, fun σ' H' z => ⟨ds.length - (i + 1), by omega, rfl, hlt, z⟩, fun x H' hy => ?_⟩
    obtain ⟨F3, g3, s3, r3⟩ := w4 x H' hy
    have sm3 : Same F1 F3 := sm2.trans s3.exF
    refine ⟨F3, env2, _, e2, g3, r3, h3, fun σ4 _ _ g4 => ?_⟩
    split at h2
    · rename_i e4 h4
      exact sJ.go g4 h4 fun F5 σ5 H5 s5 g5 => ⟨F5, _, sm3.trans s5, g5.ers er, h2⟩
    · rename_i e4 h4
      exact sJ.go g4 h4 fun F5 σ5 H5 s5 g5 => ⟨F5, _, sm3.trans s5, g5.ers er, h2⟩
    · rename_i e4 h4
      cases h2
      exact sJ.go g4 h4 fun F5 σ5 H5 s5 g5 => q F5 σ5 H5 ((s1'.exF.trans sm3).trans s5) (g5.ers er)
    · rename_i r e4 h4
      cases h2
      exact sJ.go g4 h4 (q.up (s1'.exF.trans sm3))
    · rename_i c e4 h4
      cases h2
      exact sJ.go g4 h4 (q.up (s1'.exF.trans sm3))
    · cases h2
  · refine .inl ⟨w1 i hge, ?_⟩
    rw [List.drop_eq_nil_of_le hge] at h2
    simp only [runFor] at h2
    cases h2
    exact q F2 _ _ (s1'.exF.trans sm2) g2
/-! ### the iterators -/
theorem pi_or {tg iter : Expr} {w1 w2 : TI} (h1 : PI X tg iter w1) (h2 : PI X tg iter w2) : PI X tg iter (fun σ H R => w1 σ H R ∨ w2 σ H R) :=
  ⟨fun pins s σ H R I h => h.elim (h1.run pins s σ H R I) (h2.run pins s σ H R I)⟩
theorem pi_weak {tg iter : Expr} {t u : TI} (h : PI X tg iter t) (w : ∀ σ H R, u σ H R → t σ H R) : PI X tg iter u := ⟨fun pins s σ H R I q => h.run pins s σ H R I (w σ H R q)⟩
theorem sqL_inj {K : Fr} {H : Hp} {a : Addr} {xs : List V} (h : H a = some (.lst xs)) : SqL K H a xs := SqL.of h
theorem wk_list {K : Fr} {F0 : Hp} {a : Addr} {vs : List V} {ds : List D} (h : ∀ F env σ H, Same F0 F → Hd K C F env σ H → H a = some (.lst vs)) (r : RpA F0 vs ds) : Wk K C F0 (Itl K a) ds := fun F env σ H s g => by
  have ha := h F env σ H s g
  refine ⟨fun i hi => ⟨vs, SqL.of ha, by rw [r.length]; exact hi⟩, fun i d hd => ?_⟩
  obtain ⟨v, h1, h2⟩ := r.getd hd
  refine ⟨⟨vs, v, SqL.of ha, h1⟩, fun x H' ⟨e, hy⟩ => ?_⟩
  subst e
  have e2 := hy vs (SqL.of ha)
  rw [h1] at e2; cases e2
  exact ⟨F, g, Stp.refl, h2.up s⟩
theorem wk_tup {K : Fr} {F0 : Hp} {a : Addr} {vs : List V} {ds : List D} (h : Tz F0 a vs) (r : RpA F0 vs ds) : Wk K C F0 (Itt K a) ds := fun F env σ H s g => by
  have ha := (h.up s).up g.ex
  refine ⟨fun i hi => ⟨vs, ha.sq, by rw [r.length]; exact hi⟩, fun i d hd => ?_⟩
  obtain ⟨v, h1, h2⟩ := r.getd hd
  refine ⟨⟨vs, v, ha.sq, h1⟩, fun x H' ⟨e, hy⟩ => ?_⟩
  subst e
  have e2 := hy vs ha.sq
  rw [h1] at e2; cases e2
  exact ⟨F, g, Stp.refl, h2.up s⟩
theorem wk_enum {K : Fr} {F0 : Hp} {a : Addr} {vs : List V} {ds : List D} (h : ∀ F env σ H, Same F0 F → Hd K C F env σ H → H a = some (.lst vs)) (r : RpA F0 vs ds) : Wk K C F0 (IteZ K a) (enum 0 ds) := fun F env σ H s g => by
  have ha := h F env σ H s g
  have len : ∀ (k : Nat) (ds : List D), (enum k ds).length = ds.length := fun k ds => by
    induction ds generalizing k with
    | nil => rfl
    | cons d ds ih => simp [enum, ih]
  have get : ∀ (k : Nat) (ds : List D) (i : Nat) (d : D), (enum k ds)[i]? = some d → ∃ e, ds[i]? = some e ∧ d = .tuple [.int ((k + i : Nat) : Int), e] := fun k ds => by
    induction ds generalizing k with
    | nil => intro i d z; simp [enum] at z
    | cons d ds ih =>
      intro i e z
      cases i with
      | zero => simp [enum] at z; exact ⟨d, rfl, z.symm⟩
      | succ i =>
        simp only [enum, List.getElem?_cons_succ] at z
        obtain ⟨e', h1, h2⟩ := ih (k + 1) i e z
        refine ⟨e', by simpa using h1, ?_⟩
        rw [h2, show k + 1 + i = k + (i + 1) by omega]
  refine ⟨fun i hi => ⟨vs, SqL.of ha, by rw [r.length, ← len 0 ds]; exact hi⟩, fun i d hd => ?_⟩
  obtain ⟨e, z1, z2⟩ := get 0 ds i d hd
  obtain ⟨v, h1, h2⟩ := r.getd z1
  refine ⟨⟨vs, v, SqL.of ha, h1⟩, fun x H' ⟨T, o, y, e1, e2, eo, e3, hy⟩ => ?_⟩
  have e4 := hy vs (SqL.of ha)
  rw [h1] at e4; cases e4
  subst e1 e3 z2
  have hf := Same.none g.ex e2
  refine ⟨_, g.newF e2, Stp.newF g e2, .tup ⟨o, upd_same, eo⟩ (.cons ?_ (.cons ((h2.up s).up (same_upd hf)) .nil))⟩
  rw [Nat.zero_add]
  exact .int _
theorem rngD_get {lo : Int} {n i : Nat} {d : D} (h : (rngD lo n)[i]? = some d) : i < n ∧ d = .int (lo + (i : Nat)) := by
  unfold rngD at h
  rw [List.getElem?_map] at h
  rcases Nat.lt_or_ge i n with hi | hi
  · rw [List.getElem?_range hi] at h
    cases h
    exact ⟨hi, rfl⟩
  · rw [List.getElem?_eq_none (by rw [List.length_range]; exact hi)] at h
    cases h
theorem rngD_len (lo : Int) (n : Nat) : (rngD lo n).length = n := by unfold rngD; simp
theorem wk_range {K : Fr} {F0 : Hp} {lo : Int} {n : Nat} : Wk K C F0 (Itr lo n) (rngD lo n) := fun F env σ H s g => by
  refine ⟨fun i hi => by rw [rngD_len] at hi; exact hi, fun i d hd => ?_⟩
  obtain ⟨h1, rfl⟩ := rngD_get hd
  refine ⟨h1, fun x H' ⟨e, hy⟩ => ?_⟩
  subst e hy
  exact ⟨F, g, Stp.refl, .int _⟩
/-- over a list or a tuple -/
def LsK (K : Fr) (C : FC) (F0 : Hp) (a : Addr) (vs : List V) : Prop := ∀ F env σ H, Same F0 F → Hd K C F env σ H → H a = some (.lst vs)
theorem seq_it {K : Fr} {F : Hp} {env env' : Env} {σ : St} {H : Hp} {ds : List D} (hd : Hd K C F env σ H) (h : itSeq f env = some (ds, env')) :
    (∀ R : VK, (∀ F' H' a vs, Stp F env σ H F' env' H' → Hd K C F' env' σ H' → RpA F' vs ds → LsK K C F' a vs → R (V.ref a) H') → tJ K C f σ H R) ∨
    (∀ R : VK, (∀ F' H' a vs, Stp F env σ H F' env' H' → Hd K C F' env' σ H' → RpA F' vs ds → Tz F' a vs → R (V.ref a) H') → tJ K C f σ H R) := by
  simp only [itSeq] at h
  split at h
  · cases h
  rename_i x e1 h1
  split at h
  · rename_i ds' h2
    cases h
    refine .inl fun R q => tJ.go hd h1 fun F1 H1 v s1 g1 r1 => ?_
    cases x with
    | sl i =>
      simp only [bwOf] at h2
      split at h2
      · rename_i ds'' h3
        cases h2
        have r1' : σ[i]? = some (some v) := r1
        obtain ⟨a, vs, z1, z2, z3, z4⟩ := g1.bw i _ h3
        rw [r1'] at z1; cases z1
        exact q F1 H1 a vs s1 g1 z4 fun F2 env2 σ2 H2 s2 g2 => g2.keep _ _ z2 z3
      · cases h2
    | fz d => simp only [bwOf] at h2; cases h2
    | tm d => simp only [bwOf] at h2; cases h2
    | nt d => simp only [bwOf] at h2; cases h2
  · split at h
    · cases h
    rename_i d e2 h3
    split at h
    · rename_i ds' h4
      cases h
      cases d with
      | list es =>
        cases h4
        refine .inl fun R q => tJ.go hd h1 fun F1 H1 v s1 g1 r1 => ?_
        obtain ⟨F2, s2, g2, r2, _⟩ := g1.fzv hd s1 r1 h3
        cases r2 with
        | lst p1 p2 => exact q F2 H1 _ _ s2 g2 p2 fun F3 env3 σ3 H3 s3 g3 => g3.ex _ _ (s3 _ _ p1)
      | tuple es =>
        cases h4
        refine .inr fun R q => tJ.go hd h1 fun F1 H1 v s1 g1 r1 => ?_
        obtain ⟨F2, s2, g2, r2, _⟩ := g1.fzv hd s1 r1 h3
        cases r2 with
        | tup p1 p2 => exact q F2 H1 _ _ s2 g2 p2 p1
      | _ => cases h4
    · cases h
theorem ji_seq {tg iter : Expr} (h : JE X C iter f) : JI X C tg iter (itSeq f) := by
  refine pi_weak (pi_or (pi_list h) (pi_tup h)) fun σ H R ⟨F, env, ds, env', hd, he, q⟩ => ?_
  rcases seq_it hd he with w | w
  · exact .inl (w _ fun F1 H1 a vs s1 g1 r1 hl => ⟨a, rfl, ⟨vs, SqL.of (hl F1 _ _ H1 (Same.refl F1) g1)⟩, q F1 H1 _ s1 g1 (wk_list hl r1)⟩)
  · exact .inr (w _ fun F1 H1 a vs s1 g1 r1 hl => ⟨a, rfl, ⟨vs, (hl.up g1.ex).sq⟩, q F1 H1 _ s1 g1 (wk_tup hl r1)⟩)
theorem two62 : ((2 : Int) ^ 62) = big := by decide
theorem ji_r1 {tg iter : Expr} (h : PI X tg iter (iRng1 (tCons (tJ X.K C f) tNil))) : JI X C tg iter (itR1 f) := by
  refine pi_weak h fun σ H R ⟨F, env, ds, env', hd, he, q⟩ => ?_
  simp only [itR1] at he
  split at he
  · rename_i n e1 h1
    split at he
    · rename_i hb
      cases he
      refine tJ.go hd h1 fun F1 H1 v s1 g1 r1 => ?_
      have r1' : Rp F1 v (.int n) := r1
      cases r1'
      exact ⟨n, rfl, by rw [two62]; exact hb.1, by rw [two62]; exact hb.2, q F1 H1 _ s1 g1 wk_range⟩
    · cases he
  · cases he
theorem ji_r2 {tg iter : Expr} (h : PI X tg iter (iRng2 (tCons (tJ X.K C fa) (tCons (tJ X.K C fb) tNil)))) : JI X C tg iter (itR2 fa fb) := by
  refine pi_weak h fun σ H R ⟨F, env, ds, env', hd, he, q⟩ => ?_
  simp only [itR2] at he
  split at he
  · rename_i m e1 h1
    split at he
    · rename_i n e2 h2
      split at he
      · rename_i hb
        cases he
        refine tJ.go hd h1 fun F1 H1 v s1 g1 r1 => tJ.go g1 h2 fun F2 H2 w s2 g2 r2 => ?_
        have r1' : Rp F1 v (.int m) := r1
        have r2' : Rp F2 w (.int n) := r2
        cases r1'
        cases r2'
        exact ⟨m, n, rfl, by rw [two62]; exact ⟨hb.1.1, hb.1.2, hb.2.1, hb.2.2⟩, q F2 H2 _ (s1.trans s2) g2 wk_range⟩
      · cases he
    · cases he
  · cases he
/-- enumerate over a list, a tuple; h2 by an own rule -/
def iEnT (K : Fr) (Jt : Addr → L2.It) (ta : TA) : TI := fun σ H R => ta σ H fun vs H1 => ∃ a xs, vs = [V.ref a] ∧ SqT K H1 a xs ∧ R (Jt a) H1
theorem ji_en {tg iter : Expr} {Jt : Addr → L2.It} (h : PI X tg iter (iEnZ X.K (tCons (tJ X.K C f) tNil))) (h2 : PI X tg iter (iEnT X.K Jt (tCons (tJ X.K C f) tNil)))
    (wt : ∀ F0 a vs ds, Tz F0 a vs → RpA F0 vs ds → Wk X.K C F0 (Jt a) (enum 0 ds)) : JI X C tg iter (itEn (itSeq f)) := by
  refine pi_weak (pi_or h h2) fun σ H R ⟨F, env, ds, env', hd, he, q⟩ => ?_
  simp only [itEn] at he
  split at he
  · cases he
  rename_i ds' e1 h1
  cases he
  rcases seq_it hd h1 with w | w
  · exact .inl (w _ fun F1 H1 a vs s1 g1 r1 hl => ⟨a, vs, rfl, SqL.of (hl F1 _ _ H1 (Same.refl F1) g1), q F1 H1 _ s1 g1 (wk_enum hl r1)⟩)
  · exact .inr (w _ fun F1 H1 a vs s1 g1 r1 hl => ⟨a, vs, rfl, (hl.up g1.ex).sq, q F1 H1 _ s1 g1 (wt F1 a vs _ hl r1)⟩)
end
end J
namespace J
open PySem L2
/-! ### comprehensions -/
theorem wipe_out {σ : St} {i : Nat} : ∀ {vs : List Nat}, i ∉ vs → (wipe σ vs)[i]? = σ[i]?
  | [], _ => rfl
  | v :: vs, h => by
    rw [List.mem_cons, not_or] at h
    unfold wipe
    rw [List.getElem?_set_ne (fun e => h.1 e.symm), wipe_out h.2]
theorem wipe_in {σ : St} {i : Nat} : ∀ {vs : List Nat}, i ∈ vs → i < σ.length → (wipe σ vs)[i]? = some none
  | [], h, _ => absurd h (by simp)
  | v :: vs, h, hl => by
    unfold wipe
    by_cases e : v = i
    · subst e
      rw [List.getElem?_set_self (by rw [wipe_length]; exact hl)]
    · rw [List.getElem?_set_ne e]
      rcases List.mem_cons.mp h with z | z
      · exact absurd z.symm e
      · exact wipe_in z hl
theorem wipe_eq {σ σ' : St} {vs : List Nat} (hl : σ'.length = σ.length) (h : ∀ i, i ∉ vs → σ'[i]? = σ[i]?) : wipe σ' vs = wipe σ vs := by
  apply List.ext_getElem?
  intro i
  by_cases hi : i ∈ vs
  · rcases Nat.lt_or_ge i σ.length with z | z
    · rw [wipe_in hi (by rw [hl]; exact z), wipe_in hi z]
    · rw [List.getElem?_eq_none (by rw [wipe_length, hl]; exact z), List.getElem?_eq_none (by rw [wipe_length]; exact z)]
  · rw [wipe_out hi, wipe_out hi, h i hi]
theorem ers_in {i : Nat} : ∀ {er : List Nat} {env : Env}, (i ∈ er ∨ env[i]? = some .no ∨ env[i]? = none) → ((ers er env)[i]? = some .no ∨ (ers er env)[i]? = none)
  | [], env, h => by
    rcases h with h | h
    · exact absurd h (by simp)
    · exact h
  | j :: r, env, h => by
    show ((ers r (env.set j .no))[i]? = some .no ∨ (ers r (env.set j .no))[i]? = none)
    refine ers_in ?_
    by_cases e : j = i
    · subst e
      refine .inr ?_
      rcases Nat.lt_or_ge j env.length with z | z
      · exact .inl (List.getElem?_set_self z)
      · exact .inr (List.getElem?_eq_none (by rw [List.length_set]; exact z))
    · rw [List.getElem?_set_ne e]
      rcases h with h | h
      · rcases List.mem_cons.mp h with z | z
        · exact absurd z.symm e
        · exact .inl z
      · exact .inr h
theorem ers_ow {i : Nat} {ds : List D} : ∀ {er : List Nat} {env : Env}, (ers er env)[i]? = some (.ow ds) → env[i]? = some (.ow ds)
  | [], env, h => h
  | j :: r, env, h => by
    have h' := ers_ow (er := r) h
    rcases set_get h' with ⟨_, e2, _⟩ | ⟨_, p⟩
    · cases e2
    · exact p
theorem ers_nt {i : Nat} {o : Ob} : ∀ {er : List Nat} {env : Env}, (ers er env)[i]? = some (.nt o) → env[i]? = some (.nt o)
  | [], env, h => h
  | j :: r, env, h => by
    have h' := ers_nt (er := r) h
    rcases set_get h' with ⟨_, e2, _⟩ | ⟨_, p⟩
    · cases e2
    · exact p
/-- fewer own things -/
structure Less (env env' : Env) : Prop where
  ow : ∀ (i : Nat) (ds : List D), env'[i]? = some (.ow ds) → ∃ es, env[i]? = some (.ow es)
  nt : ∀ (i : Nat) (o : Ob), env'[i]? = some (.nt o) → env[i]? = some (.nt o)
theorem ers_less {er : List Nat} {env : Env} : Less env (ers er env) := ⟨fun _ es z => ⟨es, ers_ow z⟩, fun _ _ z => ers_nt z⟩
/-- nothing is known in the slots vs -/
def Off (vs : List Nat) (env : Env) : Prop := ∀ i ∈ vs, env[i]? = some .no ∨ env[i]? = none
theorem off_ers {vs : List Nat} {env : Env} : Off vs (ers vs env) := fun i hi => ers_in (.inl hi)
section
variable {K : Fr} {C : FC} {F F' : Hp} {env env' : Env} {σ σ' : St} {H H' : Hp} {vs : List Nat}
theorem Hd.sig (h : Hd K C F env σ H) (hl : σ'.length = σ.length) (ho : Off vs env) (he : ∀ i, i ∉ vs → σ'[i]? = σ[i]?) (hm : ∀ i ∈ vs, i ∉ C.mp) : Hd K C F env σ' H := by
  have kn : ∀ {i : Nat} {x : Sl}, env[i]? = some x → x ≠ .no → σ'[i]? = σ[i]? := fun {i x} q n => he i fun z => by
    rcases ho i z with z | z
    · rw [q] at z; cases z; exact n rfl
    · rw [q] at z; cases z
  refine ⟨h.ex, h.len.trans hl.symm, fun i d q => ?_, fun i d q => ?_, fun i d q => ?_, fun i d q => ?_, fun i j ds es a q1 q2 p1 p2 => ?_, h.keep, h.old, h.dom, fun k i a q1 q2 => ?_, fun i o q => ?_, fun i j o o' w w' a q1 q2 z1 z2 => ?_, fun i j o ds w a q1 q2 z1 z2 => ?_⟩
  · rw [kn q (fun z => nomatch z)]; exact h.fz i d q
  · rw [kn q (fun z => nomatch z)]; exact h.ow i d q
  · rw [kn q (fun z => nomatch z)]; exact h.bw i d q
  · rw [kn q (fun z => nomatch z)]; exact h.sc i d q
  · rw [kn q1 (fun z => nomatch z)] at p1
    rw [kn q2 (fun z => nomatch z)] at p2
    exact h.inj i j ds es a q1 q2 p1 p2
  · rw [he i fun z => hm i z (List.mem_of_getElem? q1)]
    exact h.mps k i a q1 q2
  · rw [kn q (fun z => nomatch z)]; exact h.nt i o q
  · rw [kn q1 (fun z => nomatch z)] at z1
    rw [kn q2 (fun z => nomatch z)] at z2
    exact h.ntj i j o o' w w' a q1 q2 z1 z2
  · rw [kn q1 (fun z => nomatch z)] at z1
    rw [kn q2 (fun z => nomatch z)] at z2
    exact h.nto i j o ds w a q1 q2 z1 z2
/-- writing where nothing of a slot's own stands -/
theorem NotOw.foot {p : Addr} {u : HO} (n : NotOw env σ H p) {i : Nat} {ob : Ob} {v : V} (q : env[i]? = some (.nt ob)) (z : σ[i]? = some (some v)) : J.foot (upd H p u) ob v = J.foot H ob v :=
  foot_keep ob v fun a m => upd_ne fun e => n.nt i ob v q z (by rw [← e]; exact m)
theorem NotOw.wr {p a : Addr} {u : HO} (n : NotOw env σ H p) (k : NotOw env σ H a) : NotOw env σ (upd H p u) a := ⟨k.ow, fun j o v q z => by
  rw [n.foot q z]
  exact k.nt j o v q z⟩
/-- the new list grows -/
theorem Hd.grow (h : Hd K C F env σ H) {dl : Addr} {acc : List V} (hF : F dl = none) (h0 : C.H0 dl = none) (nO : NotOw env σ H dl) : Hd K C F env σ (upd H dl (.lst acc)) := by
  refine ⟨fun b u z => ?_, h.len, h.fz, fun j es z => ?_, h.bw, h.sc, h.inj, fun b u z n => ?_, fun b z => h.old b (upd_none z).2, h.dom, h.mps, fun i ob q => ?_, fun i j o o' v v' a q1 q2 z1 z2 m1 m2 => ?_, fun i j o ds v a q1 q2 z1 z2 m => ?_⟩
  · rw [upd_ne (ne_of_none z hF)]; exact h.ex b u z
  · obtain ⟨b, ws, p1, p2, p3⟩ := h.ow j es z
    have ne : b ≠ dl := fun w => nO.ow j es z (by rw [← w]; exact p1)
    exact ⟨b, ws, p1, by rw [upd_ne ne]; exact p2, p3⟩
  · have ne : b ≠ dl := by
      rintro rfl
      rw [h0] at z; cases z
    rw [upd_ne ne]; exact h.keep b u z n
  · obtain ⟨v, h1, h2, h3⟩ := h.nt i ob q
    refine ⟨v, h1, okO_keep (Same.refl F) ob v h2 fun a m => ⟨upd_ne fun e => nO.nt i ob v q h1 (by rw [← e]; exact m), (okO_at ob v h2 a m).2⟩, ?_⟩
    rw [nO.foot q h1]; exact h3
  · rw [nO.foot q1 z1] at m1
    rw [nO.foot q2 z2] at m2
    exact h.ntj i j o o' v v' a q1 q2 z1 z2 m1 m2
  · rw [nO.foot q1 z1] at m
    exact h.nto i j o ds v a q1 q2 z1 z2 m
/-- two stores agree where something of one's own stands -/
structure Agr (env : Env) (σ σ' : St) : Prop where
  ow : ∀ (i : Nat) (ds : List D), env[i]? = some (.ow ds) → σ'[i]? = σ[i]?
  nt : ∀ (i : Nat) (o : Ob), env[i]? = some (.nt o) → σ'[i]? = σ[i]?
theorem Agr.symm (h : Agr env σ σ') : Agr env σ' σ := ⟨fun i ds q => (h.ow i ds q).symm, fun i o q => (h.nt i o q).symm⟩
theorem NotOw.sig {a : Addr} (h : NotOw env σ H a) (he : Agr env σ σ') : NotOw env σ' H a := ⟨fun j ds q z => by
  rw [he.ow j ds q] at z
  exact h.ow j ds q z, fun j o v q z => by
  rw [he.nt j o q] at z
  exact h.nt j o v q z⟩
theorem Stp.sig (h : Stp F env σ H F' env' H') (he : Agr env σ σ') : Stp F env σ' H F' env' H' :=
  ⟨h.exF, fun a o q1 q2 n => h.tmp a o q1 q2 (n.sig he.symm), h.sub, h.old, fun i o q => by
    obtain ⟨o', h1, h2⟩ := h.subN i o q
    exact ⟨o', h1, fun v a z => h2 v a (by rw [← he.nt i o' h1]; exact z)⟩⟩
theorem Stp.less {env2 : Env} (h : Stp F env σ H F' env' H') (hs : Less env' env2) : Stp F env σ H F' env2 H' :=
  ⟨h.exF, h.tmp, fun i ds q => by
    obtain ⟨es, q'⟩ := hs.ow i ds q
    exact h.sub i es q', h.old, fun i o q => h.subN i o (hs.nt i o q)⟩
theorem NotOw.less {env2 : Env} {a : Addr} (n : NotOw env σ H a) (hs : Less env env2) : NotOw env2 σ H a := ⟨fun j ds q => by
  obtain ⟨es, q'⟩ := hs.ow j ds q
  exact n.ow j es q', fun j o v q => n.nt j o v (hs.nt j o q)⟩
theorem NoNew.less (h : NoNew env env') : Less env env' := ⟨fun i ds q => ⟨ds, h.ow i ds q⟩, h.nt⟩
theorem Stp.more {env0 : Env} (h : Stp F env σ H F' env' H') (hs : NoNew env0 env) : Stp F env0 σ H F' env' H' :=
  ⟨h.exF, fun a o q1 q2 n => h.tmp a o q1 q2 (n.less hs.less), fun i ds q => by
    obtain ⟨es, q'⟩ := h.sub i ds q
    exact ⟨es, hs.ow i es q'⟩, h.old, fun i o q => by
    obtain ⟨o', q', m'⟩ := h.subN i o q
    exact ⟨o', hs.nt i o' q', m'⟩⟩
end
section
variable {X : Cx} {C : FC} {f fe : M RV} {ft : M Bool} {e : Expr}
theorem off_agr {er : List Nat} {env2 env3 : Env} {σ σ3 : St} (off : Off er env2) (nn : NoNew env2 env3) (hs : ∀ i, i ∉ er → σ3[i]? = (wipe σ er)[i]?) : Agr env3 σ σ3 := by
  have go : ∀ (i : Nat) (x : Sl), x ≠ .no → env2[i]? = some x → σ3[i]? = σ[i]? := fun i x hx z => by
    have hi : i ∉ er := fun w => by
      rcases off i w with p | p
      · rw [p] at z; cases z; exact hx rfl
      · rw [p] at z; cases z
    rw [hs i hi, wipe_out hi]
  exact ⟨fun i ds z => go i _ (by intro e; cases e) (nn.ow i ds z), fun i o z => go i _ (by intro e; cases e) (nn.nt i o z)⟩
/-- the reading of a comprehension -/
theorem lc_run {K : Fr} {er : List Nat} {g : G} {it : M (List D)} {σ : St} {H : Hp} {Q : VK} {mp : List Nat} (hc : C.mp = mp) (hm : ∀ i ∈ er, i ∉ mp) (hn : ∀ d env env', g d env = some env' → NoNew env env')
    (h : tJ K C (eLc er g it ft fe) σ H Q) : tLc (tiJ K C it) (tgJ K C er g) (ttJ K C ft) (tJ K C fe) er σ H Q := by
  subst hc
  obtain ⟨F, env, rv, env', hd, he, q⟩ := h
  simp only [eLc] at he
  split at he
  · cases he
  rename_i ds e1 h1
  split at he
  · rename_i hlen
    split at he
    · cases he
    rename_i ys e2 h2
    cases he
    refine ⟨F, env, ds, e1, hd, h1, fun F1 H1 J s1 g1 wk dl hD => ?_⟩
    -- the state ahead of turn i
    refine ⟨fun i m H' => m = ds.length - i ∧ i ≤ ds.length ∧ ∃ F2 env2 acc dn rest, Same F1 F2 ∧ Hd K C F2 env2 σ H' ∧ Off er env2 ∧ Stp F env σ H F2 env2 H' ∧ H' dl = some (.lst acc) ∧ F2 dl = none ∧ RpA F2 acc dn ∧ NotOw env2 σ H' dl ∧
      runLc g ft fe er (ds.drop i) env2 = some (rest, env') ∧ ys = dn ++ rest ∧ acc.length ≤ i, ⟨_, rfl, Nat.zero_le _, F1, ers er e1, [], [], ys, Same.refl F1, (g1.ers er).new hD, off_ers, ?_, upd_same, Same.none g1.ex hD, .nil, ?_, h2, rfl, Nat.le_refl _⟩, ?_⟩
    · exact (s1.trans (Stp.new g1 hD)).less ers_less
    · exact ((g1.ers er).notNew hD).up (g1.ers er) hD
    · rintro i m H2 ⟨rfl, hi', F2, env2, acc, dn, rest, sm, g2, off, s2, hA, hF, rA, nO, h3, hy, hal⟩
      have offO : ∀ {env3 : Env}, NoNew env2 env3 → ∀ {σ3 : St}, (∀ i, i ∉ er → σ3[i]? = (wipe σ er)[i]?) → Agr env3 σ σ3 := fun {env3} nn {σ3} hs => off_agr off nn hs
      obtain ⟨w1, w2⟩ := wk F2 env2 σ H2 sm g2
      rcases Nat.lt_or_ge i ds.length with hlt | hge
      · refine .inr ?_
        have hd' : ds[i]? = some ds[i] := List.getElem?_eq_getElem hlt
        rw [List.drop_eq_getElem_cons hlt] at h3
        obtain ⟨w3, w4⟩ := w2 i _ hd'
        simp only [runLc] at h3
        split at h3
        · cases h3
        rename_i e3 h4
        refine ⟨w3, fun H' => ∃ F2 env2 acc dn rest, Same F1 F2 ∧ Hd K C F2 env2 σ H' ∧ Off er env2 ∧ Stp F env σ H F2 env2 H' ∧ H' dl = some (.lst acc) ∧ F2 dl = none ∧ RpA F2 acc dn ∧ NotOw env2 σ H' dl ∧
          runLc g ft fe er (ds.drop (i + 1)) env2 = some (rest, env') ∧ ys = dn ++ rest ∧ acc.length ≤ i + 1, fun H' z => ⟨ds.length - (i + 1), by omega, rfl, hlt, z⟩, fun x H' hy' => ?_⟩
        obtain ⟨F3, g3, s3, r3⟩ := w4 x H' hy'
        obtain ⟨hF3, hA3⟩ := s3.tmp dl _ hF hA nO
        have sm3 := sm.trans s3.exF
        have g3w : Hd K C F3 env2 (wipe σ er) H' := g3.sig (wipe_length σ er) off (fun i hi => wipe_out hi) hm
        refine ⟨F3, env2, _, e3, g3w, r3, h4, fun σ4 l4 k4 g4 => ⟨(wipe_eq l4 k4).trans (wipe_eq (wipe_length σ er) fun i hi => wipe_out hi), ?_⟩⟩
        have nn := hn _ _ _ h4
        have o4 := offO nn k4
        have nO3 := nO.stp s3 (some_ne hA)
        have nO4 : NotOw e3 σ4 H' dl := (nO3.less nn.less).sig o4
        split at h3
        · cases h3
        · -- left out
          rename_i e4 h5
          refine ttJ.go g4 h5 fun F5 H5 s5 g5 => ?_
          rw [if_neg Bool.false_ne_true]
          obtain ⟨hF5, hA5⟩ := s5.tmp dl _ hF3 hA3 nO4
          have s5' : Stp F3 env2 σ H' F5 e4 H5 := (s5.sig o4.symm).more nn
          have g5w : Hd K C F5 (ers er e4) σ H5 := (g5.ers er).sig (by rw [l4, wipe_length]) off_ers (fun i hi => by rw [k4 i hi, wipe_out hi]) hm
          refine ⟨F5, ers er e4, acc, dn, rest, sm3.trans s5.exF, g5w, off_ers, ((s2.trans s3).trans s5').less ers_less, hA5, hF5, (rA.up s3.exF).up s5.exF, ?_, h3, hy, Nat.le_succ_of_le hal⟩
          exact (nO3.stp s5' (some_ne hA3)).less ers_less
        · rename_i e4 h5
          split at h3
          · cases h3
          rename_i x' e5 h6
          split at h3
          · cases h3
          rename_i y' e6 h7
          split at h3
          · cases h3
          rename_i ys' e7 h8
          cases h3
          refine ttJ.go g4 h5 fun F5 H5 s5 g5 => ?_
          rw [if_pos rfl]
          refine tJ.go g5 h6 fun F6 H6 v s6 g6 r6 => ?_
          obtain ⟨F7, s7, g7, r7, _⟩ := g6.fzv g5 s6 r6 h7
          obtain ⟨hF5, hA5⟩ := s5.tmp dl _ hF3 hA3 nO4
          have nO5 : NotOw e4 σ4 H5 dl := nO4.stp s5 (some_ne hA3)
          obtain ⟨hF7, hA7⟩ := s7.tmp dl _ hF5 hA5 nO5
          have s57 := s5.trans s7
          have s57' : Stp F3 env2 σ H' F7 e6 H6 := (s57.sig o4.symm).more nn
          have hz : acc.length < sizeLine := by
            have : ds.length ≤ limit := hlen
            rw [sizeLine_eq]
            unfold limit at this
            omega
          refine ⟨acc, hA7, hz, ?_⟩
          have g7w : Hd K C F7 (ers er e6) σ H6 := (g7.ers er).sig (by rw [l4, wipe_length]) off_ers (fun i hi => by rw [k4 i hi, wipe_out hi]) hm
          have nO7 : NotOw (ers er e6) σ H6 dl := (nO3.stp s57' (some_ne hA3)).less ers_less
          -- the new list grows
          have hD0 : H dl = none := s1.old dl hD
          have g8 : Hd K C F7 (ers er e6) σ (upd H6 dl (.lst (acc ++ [v]))) := g7w.grow hF7 (hd.old _ hD0) nO7
          refine ⟨F7, ers er e6, acc ++ [v], dn ++ [y'], ys', (sm3.trans s5.exF).trans s7.exF, g8, off_ers, ?_, upd_same, hF7, ((((rA.up s3.exF).up s5.exF).up s7.exF)).append (.cons r7 .nil), nO7.wr nO7, h8, ?_, ?_⟩
          · have st := ((s2.trans s3).trans s57').less (env2 := ers er e6) ers_less
            exact ⟨st.exF, fun b u z1 z2 n => by
              obtain ⟨p1, p2⟩ := st.tmp b u z1 z2 n
              have ne : b ≠ dl := ne_of_none z2 hD0
              exact ⟨p1, by rw [upd_ne ne]; exact p2⟩, st.sub, fun b z => st.old b (upd_none z).2, fun i o z => by
              obtain ⟨o', z1, z2⟩ := st.subN i o z
              exact ⟨o', z1, fun w b z3 m => z2 w b z3 (by rw [nO7.foot z z3] at m; exact m)⟩⟩
          · rw [hy, List.append_assoc]; rfl
          · rw [List.length_append]; simp only [List.length_cons, List.length_nil]; omega
      · refine .inl ⟨w1 i hge, ?_⟩
        rw [List.drop_eq_nil_of_le hge] at h3
        simp only [runLc] at h3
        cases h3
        rw [List.append_nil] at hy
        subst hy
        exact q F2 H2 _ s2 g2 ⟨dl, acc, rfl, hA, hF, rA, s1.old dl hD, nO⟩
  · cases he
/-- [..]; h by pe_lc -/
theorem je_lc {er mp : List Nat} {g : G} {it : M (List D)} (hc : C.mp = mp) (hm : ∀ i ∈ er, i ∉ mp) (hn : ∀ d env env', g d env = some env' → NoNew env env')
    (h : PE X e (tLc (tiJ X.K C it) (tgJ X.K C er g) (ttJ X.K C ft) (tJ X.K C fe) er)) : JE X C e (eLc er g it ft fe) := pe_weak h fun σ H Q z => lc_run hc hm hn z
/-- y = [..]; h by ps_setLc -/
theorem js_lc {st : Stmt} {i : Nat} {er mp : List Nat} {g : G} {it : M (List D)} (hc : C.mp = mp) (hi : i ∉ mp) (hm : ∀ i ∈ er, i ∉ mp) (hn : ∀ d env env', g d env = some env' → NoNew env env')
    (h : PS X st (tAsg (tLc (tiJ X.K C it) (tgJ X.K C er g) (ttJ X.K C ft) (tJ X.K C fe) er) (gName i))) : JS X C st (sAsg i (eLc er g it ft fe)) :=
  js_asg hc hi (ps_weak h fun D' σ H z => lc_run hc hm hn z)
theorem nn_nm {i : Nat} : ∀ d env env', gNm i d env = some env' → NoNew env env' := fun d env env' e => by
  simp only [gNm] at e
  cases e
  exact ⟨fun j es p => (set_ne (by intro z; cases z) p).2, fun j es p => (set_ne (by intro z; cases z) p).2⟩
theorem tyes_run {K : Fr} {σ : St} {H : Hp} {Q : Bool → Hp → Prop} (h : ttJ K C tYes σ H Q) : L2.tYes σ H Q := by
  obtain ⟨F, env, b, env', hd, he, q⟩ := h
  simp only [J.tYes] at he
  cases he
  exact q F H Stp.refl hd
theorem pts_weak {ifs : List Expr} {t u : TT} (h : PTs X ifs t) (w : ∀ σ H Q, u σ H Q → t σ H Q) : PTs X ifs u := ⟨fun pins s σ H Q I q => h.run pins s σ H Q I (w σ H Q q)⟩
theorem jts_nil : PTs X [] (ttJ X.K C tYes) := pts_weak pts_nil fun σ H Q z => tyes_run z
theorem jts_one {c : Expr} (h : JT X C c ft) : PTs X [c] (ttJ X.K C ft) := pts_one h
end
end J
namespace J
open PySem L2
/-! ### defs: what they promise -/
def mutA : List PK → List V → List Addr
  | .mt :: ks, .ref a :: vs => a :: mutA ks vs
  | _ :: ks, _ :: vs => mutA ks vs
  | _, _ => []
def mutI (k : Nat) : List PK → List Nat
  | .mt :: ks => k :: mutI (k + 1) ks
  | _ :: ks => mutI (k + 1) ks
  | [] => []
def ArgR (K : Fr) (F H : Hp) (Mu : List Addr) : PK → V → D → Prop
  | .fz, v, d => Rp F v d
  | .bw, v, d => (∃ a vs ds, v = V.ref a ∧ d = .list ds ∧ H a = some (.lst vs) ∧ a ∉ Mu ∧ RpA F vs ds) ∨ ((∀ ds, d ≠ .list ds) ∧ Rp F v d)
  | .mt, v, d => ∃ a vs ds, v = V.ref a ∧ d = .list ds ∧ H a = some (.lst vs) ∧ F a = none ∧ RpA F vs ds
  | .sc, v, d => ∃ (a : Addr) (ns : List Int), v = V.ref a ∧ d = .list (ns.map PyData.int) ∧ ScR K H Mu a (ns.map V.int)
inductive ArgsR (K : Fr) (F H : Hp) (Mu : List Addr) : List PK → List V → List D → Prop
  | nil : ArgsR K F H Mu [] [] []
  | cons {k : PK} {ks : List PK} {v : V} {vs : List V} {d : D} {ds : List D} : ArgR K F H Mu k v d → ArgsR K F H Mu ks vs ds → ArgsR K F H Mu (k :: ks) (v :: vs) (d :: ds)
inductive MutsR (F H : Hp) : List Addr → List (List D) → Prop
  | nil : MutsR F H [] []
  | cons {a : Addr} {as : List Addr} {vs : List V} {ds : List D} {q : List (List D)} : H a = some (.lst vs) → F a = none → RpA F vs ds → MutsR F H as q → MutsR F H (a :: as) (ds :: q)
def ResR (H F' H' : Hp) : Rt → V → Prop
  | .fz d, v => Rp F' v d
  | .ow ds, v => ∃ a vs, v = V.ref a ∧ H a = none ∧ F' a = none ∧ H' a = some (.lst vs) ∧ RpA F' vs ds
  | .nt o, v => okO F' H' o v ∧ ∀ a ∈ foot H' o v, H a = none
def spJ (K : Fr) (ks : List PK) (fn : FnS) : Sp := fun vs H Q _ => ∃ F ds r ms, Same F H ∧ ArgsR K F H (mutA ks vs) ks vs ds ∧ (mutA ks vs).Nodup ∧ fn ds = some (r, ms) ∧
  ∀ v F' H', Same F F' → Same F' H' → (∀ a o, H a = some o → a ∉ mutA ks vs → H' a = some o) → (∀ a, H' a = none → H a = none) → (∀ a, F' a ≠ none → F a ≠ none ∨ H a = none) →
    MutsR F' H' (mutA ks vs) ms → ResR H F' H' r v → Q v H'
theorem ArgsR.len {K : Fr} {F H : Hp} {Mu : List Addr} : ∀ {ks : List PK} {vs : List V} {ds : List D}, ArgsR K F H Mu ks vs ds → vs.length = ks.length ∧ ds.length = ks.length
  | _, _, _, .nil => ⟨rfl, rfl⟩
  | _, _, _, .cons _ t => ⟨by simp [(ArgsR.len t).1], by simp [(ArgsR.len t).2]⟩
/-! ### a def's entry -/
theorem mutI_get {k i : Nat} {j : Nat} : ∀ {ks : List PK}, (mutI k ks)[j]? = some i → k ≤ i ∧ ks[i - k]? = some .mt
  | [], h => by simp [mutI] at h
  | .mt :: ks, h => by
    cases j with
    | zero => simp [mutI] at h; subst h; simp
    | succ j =>
      have h' : (mutI (k + 1) ks)[j]? = some i := by simpa [mutI] using h
      obtain ⟨h1, h2⟩ := mutI_get h'
      refine ⟨by omega, ?_⟩
      rw [show i - k = (i - (k + 1)) + 1 by omega, List.getElem?_cons_succ]
      exact h2
  | .fz :: ks, h => by
    have h' : (mutI (k + 1) ks)[j]? = some i := by simpa [mutI] using h
    obtain ⟨h1, h2⟩ := mutI_get h'
    refine ⟨by omega, ?_⟩
    rw [show i - k = (i - (k + 1)) + 1 by omega, List.getElem?_cons_succ]
    exact h2
  | .bw :: ks, h => by
    have h' : (mutI (k + 1) ks)[j]? = some i := by simpa [mutI] using h
    obtain ⟨h1, h2⟩ := mutI_get h'
    refine ⟨by omega, ?_⟩
    rw [show i - k = (i - (k + 1)) + 1 by omega, List.getElem?_cons_succ]
    exact h2
  | .sc :: ks, h => by
    have h' : (mutI (k + 1) ks)[j]? = some i := by simpa [mutI] using h
    obtain ⟨h1, h2⟩ := mutI_get h'
    refine ⟨by omega, ?_⟩
    rw [show i - k = (i - (k + 1)) + 1 by omega, List.getElem?_cons_succ]
    exact h2
/-- one slot at the entry -/
def SlR (K : Fr) (F H : Hp) (Mu : List Addr) : Sl → V → Prop
  | .no, _ => True
  | .fz d, v => Rp F v d
  | .ow ds, v => ∃ a vs, v = V.ref a ∧ a ∈ Mu ∧ H a = some (.lst vs) ∧ F a = none ∧ RpA F vs ds
  | .bw ds, v => ∃ a vs, v = V.ref a ∧ H a = some (.lst vs) ∧ a ∉ Mu ∧ RpA F vs ds
  | .sc ds, v => ∃ (a : Addr) (ns : List Int), v = V.ref a ∧ ds = ns.map PyData.int ∧ ScR K H Mu a (ns.map V.int)
  | .nt _, _ => False
theorem ini_get {K : Fr} {F H : Hp} {Mu : List Addr} : ∀ {ks : List PK} {vs : List V} {ds : List D} {env : Env}, ArgsR K F H Mu ks vs ds → (∀ a, a ∈ mutA ks vs → a ∈ Mu) → ini ks ds = some env →
    env.length = vs.length ∧ ∀ (i : Nat) (s : Sl), env[i]? = some s → ∃ v, vs[i]? = some v ∧ SlR K F H Mu s v
  | _, _, _, _, .nil, _, h => by simp only [ini] at h; cases h; exact ⟨rfl, fun i s z => by simp at z⟩
  | k :: ks, v :: vs, d :: ds, env, .cons a t, hm, h => by
    have step : ∀ (s : Sl), SlR K F H Mu s v → (∀ a, a ∈ mutA ks vs → a ∈ Mu) → (ini ks ds).map (s :: ·) = some env → env.length = (v :: vs).length ∧ ∀ (i : Nat) (s : Sl), env[i]? = some s → ∃ w, (v :: vs)[i]? = some w ∧ SlR K F H Mu s w := fun s hs hm' e => by
      cases q : ini ks ds with
      | none => rw [q] at e; cases e
      | some e1 =>
        rw [q] at e
        cases e
        obtain ⟨h1, h2⟩ := ini_get t hm' q
        refine ⟨by simp [h1], fun i s' z => ?_⟩
        cases i with
        | zero => simp at z; subst z; exact ⟨v, rfl, hs⟩
        | succ i => simpa using h2 i s' (by simpa using z)
    cases k with
    | fz =>
      simp only [ini] at h
      exact step (.fz d) a (fun b hb => hm b (by simpa [mutA] using hb)) h
    | bw =>
      have hm' : ∀ b, b ∈ mutA ks vs → b ∈ Mu := fun b hb => hm b (by simpa [mutA] using hb)
      rcases a with ⟨b, ws, es, rfl, rfl, z1, z2, z3⟩ | ⟨z1, z2⟩
      · simp only [ini] at h
        exact step (.bw es) ⟨b, ws, rfl, z1, z2, z3⟩ hm' h
      · have e : ini (.bw :: ks) (d :: ds) = (ini ks ds).map (.fz d :: ·) := by
          cases d with
          | list es => exact absurd rfl (z1 es)
          | _ => rfl
        rw [e] at h
        exact step (.fz d) z2 hm' h
    | mt =>
      obtain ⟨b, ws, es, rfl, rfl, z1, z2, z3⟩ := a
      simp only [ini] at h
      refine step (.ow es) ⟨b, ws, rfl, hm b ?_, z1, z2, z3⟩ (fun c hc => hm c ?_) h
      · simp [mutA]
      · simp [mutA, hc]
    | sc =>
      obtain ⟨b, ns, rfl, rfl, z1⟩ := a
      simp only [ini] at h
      exact step (.sc (ns.map PyData.int)) ⟨b, ns, rfl, rfl, z1⟩ (fun c hc => hm c (by simpa [mutA] using hc)) h
theorem ini_kind : ∀ {ks : List PK} {ds : List D} {env : Env} {i : Nat} {es : List D}, ini ks ds = some env → env[i]? = some (.ow es) → ks[i]? = some .mt
  | [], [], env, i, es, h, z => by simp only [ini] at h; cases h; simp at z
  | [], _ :: _, env, i, es, h, z => by simp [ini] at h
  | _ :: _, [], env, i, es, h, z => by
    rename_i k ks
    cases k <;> simp [ini] at h
  | k :: ks, d :: ds, env, i, es, h, z => by
    have go : ∀ s : Sl, (∀ es, s = .ow es → k = .mt) → (ini ks ds).map (s :: ·) = some env → (k :: ks)[i]? = some .mt := fun s hs e => by
      cases q : ini ks ds with
      | none => rw [q] at e; cases e
      | some e1 =>
        rw [q] at e
        cases e
        cases i with
        | zero =>
          simp at z
          rw [hs es z]; rfl
        | succ i => simpa using ini_kind q (by simpa using z)
    cases k with
    | fz => simp only [ini] at h; exact go (.fz d) (fun _ w => by cases w) h
    | bw =>
      cases d with
      | list es' => simp only [ini] at h; exact go (.bw es') (fun _ w => by cases w) h
      | _ => simp only [ini] at h; exact go (.fz _) (fun _ w => by cases w) h
    | mt =>
      cases d with
      | list es' => simp only [ini] at h; exact go (.ow es') (fun _ _ => rfl) h
      | _ => simp [ini] at h
    | sc =>
      cases d with
      | list es' => simp only [ini] at h; exact go (.sc es') (fun _ w => by cases w) h
      | _ => simp [ini] at h
theorem mutA_get {k0 : Nat} : ∀ {ks : List PK} {vs : List V} {k i : Nat} {a : Addr}, (mutI k0 ks)[k]? = some i → (mutA ks vs)[k]? = some a → ks.length = vs.length → (∀ (i : Nat) v, ks[i]? = some .mt → vs[i]? = some v → ∃ a, v = V.ref a) → vs[i - k0]? = some (V.ref a)
  | [], _, k, i, a, h, _, _, _ => by simp [mutI] at h
  | _ :: _, [], k, i, a, _, h, hl, _ => by simp at hl
  | p :: ks, v :: vs, k, i, a, h1, h2, hl, hr => by
    have hl' : ks.length = vs.length := by simpa using hl
    have hr' : ∀ (i : Nat) v, ks[i]? = some .mt → vs[i]? = some v → ∃ a, v = V.ref a := fun i w z1 z2 => hr (i + 1) w (by simpa using z1) (by simpa using z2)
    have skip : (mutI (k0 + 1) ks)[k]? = some i → (mutA ks vs)[k]? = some a → (v :: vs)[i - k0]? = some (V.ref a) := fun z1 z2 => by
      have := mutI_get z1
      have q := mutA_get z1 z2 hl' hr'
      rw [show i - k0 = (i - (k0 + 1)) + 1 by omega, List.getElem?_cons_succ]
      exact q
    cases p with
    | fz => exact skip (by simpa [mutI] using h1) (by simpa [mutA] using h2)
    | bw => exact skip (by simpa [mutI] using h1) (by simpa [mutA] using h2)
    | sc => exact skip (by simpa [mutI] using h1) (by simpa [mutA] using h2)
    | mt =>
      obtain ⟨b, rfl⟩ := hr 0 v rfl rfl
      cases k with
      | zero =>
        simp [mutI] at h1
        simp [mutA] at h2
        subst h1 h2
        simp
      | succ k =>
        have z1 : (mutI (k0 + 1) ks)[k]? = some i := by simpa [mutI] using h1
        have z2 : (mutA ks vs)[k]? = some a := by simpa [mutA] using h2
        have := mutI_get z1
        have q := mutA_get z1 z2 hl' hr'
        rw [show i - k0 = (i - (k0 + 1)) + 1 by omega, List.getElem?_cons_succ]
        exact q
theorem ArgsR.mt {K : Fr} {F H : Hp} {Mu : List Addr} : ∀ {ks : List PK} {vs : List V} {ds : List D}, ArgsR K F H Mu ks vs ds → ∀ (i : Nat) v, ks[i]? = some .mt → vs[i]? = some v → ∃ a, v = V.ref a
  | _, _, _, .nil, i, v, h, _ => by simp at h
  | _, _, _, .cons a t, 0, v, h1, h2 => by
    simp at h1 h2
    subst h1 h2
    obtain ⟨b, _, _, e, _⟩ := a
    exact ⟨b, e⟩
  | _, _, _, .cons a t, i + 1, v, h1, h2 => ArgsR.mt t i v (by simpa using h1) (by simpa using h2)
/-- every slot of one's own at the entry is a changeable parameter; two of them differ -/
theorem mt_inj : ∀ {ks : List PK} {vs : List V} {i j : Nat} {a : Addr}, (mutA ks vs).Nodup → ks[i]? = some .mt → ks[j]? = some .mt → vs[i]? = some (V.ref a) → vs[j]? = some (V.ref a) → i = j
  | [], _, i, j, a, _, h, _, _, _ => by simp at h
  | _ :: _, [], i, j, a, _, _, _, h, _ => by simp at h
  | p :: ks, v :: vs, i, j, a, nd, h1, h2, h3, h4 => by
    have mem : ∀ {ks : List PK} {vs : List V} {i : Nat} {a : Addr}, ks[i]? = some .mt → vs[i]? = some (V.ref a) → a ∈ mutA ks vs := by
      intro ks
      induction ks with
      | nil => intro vs i a z; simp at z
      | cons p ks ih =>
        intro vs i a z1 z2
        cases vs with
        | nil => simp at z2
        | cons v vs =>
          cases i with
          | zero =>
            simp at z1 z2
            subst z1 z2
            simp [mutA]
          | succ i =>
            have w := ih (by simpa using z1) (by simpa using z2)
            cases p with
            | mt => cases v <;> simp [mutA, w]
            | _ => simpa [mutA] using w
    cases i with
    | zero =>
      cases j with
      | zero => rfl
      | succ j =>
        simp at h1 h3
        subst h1 h3
        simp only [mutA] at nd
        have w := mem (ks := ks) (vs := vs) (by simpa using h2) (by simpa using h4)
        exact absurd w (List.nodup_cons.mp nd).1
    | succ i =>
      cases j with
      | zero =>
        simp at h2 h4
        subst h2 h4
        simp only [mutA] at nd
        have w := mem (ks := ks) (vs := vs) (by simpa using h1) (by simpa using h3)
        exact absurd w (List.nodup_cons.mp nd).1
      | succ j =>
        have nd' : (mutA ks vs).Nodup := by
          cases p with
          | mt =>
            cases v with
            | ref b => simp only [mutA] at nd; exact (List.nodup_cons.mp nd).2
            | _ => simpa [mutA] using nd
          | _ => simpa [mutA] using nd
        exact congrArg Nat.succ (mt_inj (ks := ks) (vs := vs) (i := i) (j := j) (a := a) nd' (by simpa using h1) (by simpa using h2) (by simpa using h3) (by simpa using h4))
theorem hd_start {wx : WX} {cl : Str → Option Value} {K : Fr} {F H : Hp} {ks : List PK} {vs : List V} {ds : List D} {env : Env} {N : List Str} {n : Nat} (sm : Same F H) (ar : ArgsR K F H (mutA ks vs) ks vs ds) (nd : (mutA ks vs).Nodup) (h : ini ks ds = some env) (hN : N.length = ks.length + n) :
    Hd K ⟨H, F, mutA ks vs, mutI 0 ks, wx, cl⟩ F (env ++ List.replicate n .no) (L2.start N vs) H := by
  obtain ⟨hl, hg⟩ := ini_get ar (fun _ z => z) h
  obtain ⟨l1, l2⟩ := ar.len
  have hpad : N.length - vs.length = n := by omega
  have get : ∀ {i : Nat} {s : Sl}, (env ++ List.replicate n Sl.no)[i]? = some s → s ≠ .no → ∃ v, (L2.start N vs)[i]? = some (some v) ∧ SlR K F H (mutA ks vs) s v ∧ env[i]? = some s ∧ vs[i]? = some v := fun {i s} q n0 => by
    rcases Nat.lt_or_ge i env.length with hi | hi
    · rw [List.getElem?_append_left hi] at q
      obtain ⟨v, h1, h2⟩ := hg i s q
      refine ⟨v, ?_, h2, q, h1⟩
      unfold L2.start
      rw [List.getElem?_append_left (by rw [List.length_map]; omega), List.getElem?_map, h1]
      rfl
    · rw [List.getElem?_append_right hi, List.getElem?_replicate] at q
      split at q
      · cases q; exact absurd rfl n0
      · cases q
  refine ⟨sm, ?_, fun i d q => ?_, fun i es q => ?_, fun i es q => ?_, fun i es q => ?_, fun i j es es' a q1 q2 p1 p2 => ?_, fun _ _ q _ => q, fun _ q => q, fun _ q => .inl q, fun k i a q1 q2 => ?_, fun i o q => ?_, fun i j o o' w w' a q1 q2 => ?_, fun i j o ds' w a q1 q2 => ?_⟩
  · unfold L2.start
    rw [List.length_append, List.length_append, List.length_map, List.length_replicate, List.length_replicate, hpad, hl]
  · obtain ⟨v, h1, h2, _⟩ := get q (fun z => nomatch z)
    exact ⟨v, h1, h2⟩
  · obtain ⟨v, h1, ⟨a, ws, rfl, z1, z2, z3, z4⟩, _⟩ := get q (fun z => nomatch z)
    exact ⟨a, ws, h1, z2, z3, z4, .inr z1⟩
  · obtain ⟨v, h1, ⟨a, ws, rfl, z1, z2, z3⟩, _⟩ := get q (fun z => nomatch z)
    exact ⟨a, ws, h1, z1, z2, z3⟩
  · obtain ⟨v, h1, ⟨a, ns, rfl, z1, z2⟩, _⟩ := get q (fun z => nomatch z)
    exact ⟨a, ns, h1, z1, z2⟩
  · obtain ⟨v, _, _, e1, g1⟩ := get q1 (fun z => nomatch z)
    obtain ⟨v', _, _, e2, g2⟩ := get q2 (fun z => nomatch z)
    have st : ∀ {i : Nat} {v : V}, vs[i]? = some v → (L2.start N vs)[i]? = some (some v) := fun {i v} z => by
      have hi := (List.getElem?_eq_some_iff.mp z).1
      unfold L2.start
      rw [List.getElem?_append_left (by rw [List.length_map]; exact hi), List.getElem?_map, z]
      rfl
    rw [st g1] at p1
    rw [st g2] at p2
    cases p1
    cases p2
    exact mt_inj nd (ini_kind h e1) (ini_kind h e2) g1 g2
  · have q := mutA_get q1 q2 (by rw [l1]) ar.mt
    rw [Nat.sub_zero] at q
    have hi := (List.getElem?_eq_some_iff.mp q).1
    unfold L2.start
    rw [List.getElem?_append_left (by rw [List.length_map]; exact hi), List.getElem?_map, q]
    rfl
  · obtain ⟨v, _, z, _⟩ := get q (fun z => nomatch z)
    exact False.elim z
  · obtain ⟨v, _, z, _⟩ := get q1 (fun z => nomatch z)
    exact False.elim z
  · obtain ⟨v, _, z, _⟩ := get q1 (fun z => nomatch z)
    exact False.elim z
/-! ### a def's end -/
theorem fin_get {K : Fr} {C : FC} {F : Hp} {σ : St} {H : Hp} {k0 : Nat} : ∀ {ks : List PK} {env0 env : Env} {vs : List V} {ms : List (List D)}, Hd K C F env0 σ H → (∀ i s, env[i]? = some s → env0[k0 + i]? = some s) → fin ks env = some ms → ks.length = vs.length →
    (∀ (j i : Nat) (a : Addr), (mutI k0 ks)[j]? = some i → (mutA ks vs)[j]? = some a → σ[i]? = some (some (V.ref a))) → (∀ (i : Nat) v, ks[i]? = some .mt → vs[i]? = some v → ∃ a, v = V.ref a) → MutsR F H (mutA ks vs) ms
  | [], _, _, [], ms, _, _, h, _, _, _ => by simp only [fin] at h; cases h; exact .nil
  | [], _, _, _ :: _, _, _, _, _, hl, _, _ => by simp at hl
  | _ :: _, _, _, [], _, _, _, _, hl, _, _ => by simp at hl
  | p :: ks, env0, env, v :: vs, ms, hd, hs, h, hl, hm, hr => by
    have hl' : ks.length = vs.length := by simpa using hl
    have hr' : ∀ (i : Nat) v, ks[i]? = some .mt → vs[i]? = some v → ∃ a, v = V.ref a := fun i w z1 z2 => hr (i + 1) w (by simpa using z1) (by simpa using z2)
    cases env with
    | nil => cases p <;> simp [fin] at h
    | cons s env =>
      have hs' : ∀ i s, env[i]? = some s → env0[k0 + 1 + i]? = some s := fun i s z => by
        have := hs (i + 1) s (by simpa using z)
        rw [show k0 + 1 + i = k0 + (i + 1) by omega]
        exact this
      have skip : fin ks env = some ms → mutI k0 (p :: ks) = mutI (k0 + 1) ks → mutA (p :: ks) (v :: vs) = mutA ks vs → MutsR F H (mutA (p :: ks) (v :: vs)) ms := fun z e1 e2 => by
        rw [e2]
        rw [e1, e2] at hm
        exact fin_get hd hs' z hl' hm hr'
      cases p with
      | fz => exact skip (by simpa only [fin] using h) rfl (by cases v <;> rfl)
      | bw => exact skip (by simpa only [fin] using h) rfl (by cases v <;> rfl)
      | sc => exact skip (by simpa only [fin] using h) rfl (by cases v <;> rfl)
      | mt =>
        obtain ⟨b, rfl⟩ := hr 0 v rfl rfl
        cases s with
        | ow ds =>
          simp only [fin] at h
          cases q : fin ks env with
          | none => rw [q] at h; cases h
          | some q' =>
            rw [q] at h
            cases h
            have z := hs 0 _ rfl
            obtain ⟨a, ws, p1, p2, p3, p4, _⟩ := hd.ow _ _ z
            have p5 := hm 0 k0 b (by simp [mutI]) (by simp [mutA])
            rw [Nat.add_zero] at p1
            rw [p5] at p1
            cases p1
            simp only [mutA]
            refine .cons p2 p3 p4 (fin_get hd hs' q hl' (fun j i a z1 z2 => hm (j + 1) i a (by simpa [mutI] using z1) (by simpa [mutA] using z2)) hr')
        | _ => simp [fin] at h
section
variable {P : Program} {w : World} {K : Fr} {mg : Str → Option Value} {base : Heap}
theorem MutsR.fr {F H : Hp} : ∀ {as : List Addr} {q : List (List D)}, MutsR F H as q → ∀ a ∈ as, F a = none
  | _, _, .nil, a, h => absurd h (by simp)
  | _, _, .cons h1 h2 h3 t, a, h => by
    rcases List.mem_cons.mp h with e | e
    · rw [e]; exact h2
    · exact MutsR.fr t a e
/-- the promise of mkFn ks n f is kept by what reads as f -/
theorem runJ (cl : Str → Option Value) {N : List Str} {n : Nat} {ks : List PK} {f : SM} {vs : List V} {H : Hp} {Q : VK} {E : XK} (hN : N.length = ks.length + n) (h : spJ K ks (mkFn ks n f) vs H Q E) :
    ∃ C : FC, C.mp = mutI 0 ks ∧ C.cl = cl ∧ C.wx = (fun _ _ _ _ => False) ∧ sJ K C f { nx := fun _ H' => Q .non H', rt := Q } (L2.start N vs) H := by
  obtain ⟨F, ds, r, ms, sm, ar, nd, he, q⟩ := h
  refine ⟨⟨H, F, mutA ks vs, mutI 0 ks, fun _ _ _ _ => False, cl⟩, rfl, rfl, rfl, ?_⟩
  unfold mkFn at he
  split at he
  · cases he
  rename_i e0 h0
  have h1 := hd_start (wx := fun _ _ _ _ => False) (cl := cl) (N := N) sm ar nd h0 hN
  have kl : ks.length = vs.length := ar.len.1.symm
  -- the end: what the def leaves
  have done : ∀ {env : Env} {ms : List (List D)} {F1 : Hp} {σ1 : St} {H1 : Hp} {r : Rt} {v : V}, fin ks env = some ms → Same F F1 → Hd K ⟨H, F, mutA ks vs, mutI 0 ks, fun _ _ _ _ => False, cl⟩ F1 env σ1 H1 → RtR ⟨H, F, mutA ks vs, mutI 0 ks, fun _ _ _ _ => False, cl⟩ F1 env σ1 H1 r v →
      (∀ v F' H', Same F F' → Same F' H' → (∀ a o, H a = some o → a ∉ mutA ks vs → H' a = some o) → (∀ a, H' a = none → H a = none) → (∀ a, F' a ≠ none → F a ≠ none ∨ H a = none) → MutsR F' H' (mutA ks vs) ms → ResR H F' H' r v → Q v H') → Q v H1 := fun {env ms F1 σ1 H1 r v} hf s1 g1 rt q => by
    have mu : MutsR F1 H1 (mutA ks vs) ms := fin_get (k0 := 0) g1 (fun i s z => by rw [Nat.zero_add]; exact z) hf kl (fun j i a z1 z2 => g1.mps j i a z1 z2) ar.mt
    refine q v F1 H1 s1 g1.ex g1.keep g1.old (fun a z => ?_) mu ?_
    · rcases g1.dom a z with p | p | p
      · exact .inl p
      · exact .inr p
      · exact absurd (mu.fr a p) z
    · have fresh : ∀ a, (H a = none ∨ a ∈ mutA ks vs) → NotOw env σ1 H1 a → H a = none := fun a p4 p5 => by
        rcases p4 with p4 | p4
        · exact p4
        · -- a changeable parameter cannot be handed back: its slot would be one's own still
          obtain ⟨j, hj⟩ := List.getElem?_of_mem p4
          have hlen : ∀ (k0 : Nat) (ks : List PK) (vs : List V), ks.length = vs.length → (∀ (i : Nat) v, ks[i]? = some .mt → vs[i]? = some v → ∃ a, v = V.ref a) → (mutI k0 ks).length = (mutA ks vs).length := by
            intro k0 ks
            induction ks generalizing k0 with
            | nil => intro vs z _; cases vs <;> simp [mutI, mutA]
            | cons p ks ih =>
              intro vs z hr
              cases vs with
              | nil => simp at z
              | cons v vs =>
                have ih' := ih (k0 + 1) vs (by simpa using z) fun i w z1 z2 => hr (i + 1) w (by simpa using z1) (by simpa using z2)
                cases p with
                | mt =>
                  obtain ⟨b, rfl⟩ := hr 0 v rfl rfl
                  simp [mutI, mutA, ih']
                | _ => cases v <;> simpa [mutI, mutA] using ih'
          have hjl := (List.getElem?_eq_some_iff.mp hj).1
          obtain ⟨i, hi⟩ : ∃ i, (mutI 0 ks)[j]? = some i := ⟨_, List.getElem?_eq_getElem (by rw [hlen 0 ks vs kl ar.mt]; exact hjl)⟩
          have hσ := g1.mps j i a hi hj
          have fow : ∀ (k0 : Nat) (ks : List PK) (env : Env) (ms : List (List D)) (j i : Nat), fin ks env = some ms → (mutI k0 ks)[j]? = some i → ∃ ds, env[i - k0]? = some (.ow ds) := by
            intro k0 ks
            induction ks generalizing k0 with
            | nil => intro env ms j i _ z; simp [mutI] at z
            | cons p ks ih =>
              intro env ms j i z1 z2
              cases env with
              | nil => cases p <;> simp [fin] at z1
              | cons s env =>
                have sk : ∀ ms j, fin ks env = some ms → (mutI (k0 + 1) ks)[j]? = some i → ∃ ds, (s :: env)[i - k0]? = some (.ow ds) := fun ms j w1 w2 => by
                  have := mutI_get w2
                  obtain ⟨ds, w3⟩ := ih (k0 + 1) env ms j i w1 w2
                  refine ⟨ds, ?_⟩
                  rw [show i - k0 = (i - (k0 + 1)) + 1 by omega, List.getElem?_cons_succ]
                  exact w3
                cases p with
                | fz => exact sk ms j (by simpa only [fin] using z1) (by simpa [mutI] using z2)
                | bw => exact sk ms j (by simpa only [fin] using z1) (by simpa [mutI] using z2)
                | sc => exact sk ms j (by simpa only [fin] using z1) (by simpa [mutI] using z2)
                | mt =>
                  cases s with
                  | ow ds =>
                    cases j with
                    | zero =>
                      simp [mutI] at z2
                      subst z2
                      exact ⟨ds, by simp⟩
                    | succ j =>
                      simp only [fin] at z1
                      cases w : fin ks env with
                      | none => rw [w] at z1; cases z1
                      | some q' => exact sk q' j w (by simpa [mutI] using z2)
                  | _ => simp [fin] at z1
          obtain ⟨es, he⟩ := fow 0 ks env ms j i hf hi
          rw [Nat.sub_zero] at he
          exact absurd hσ (p5.ow i es he)
      cases r with
      | fz d => exact rt
      | ow ds =>
        obtain ⟨a, ws, rfl, p1, p2, p3, p4, p5⟩ := rt
        exact ⟨a, ws, rfl, fresh a p4 p5, p2, p1, p3⟩
      | nt o => exact ⟨rt.1, fun a m => fresh a (rt.2 a m).1 (rt.2 a m).2⟩
  split at he
  · rename_i e1 h2
    cases hf : fin ks e1 with
    | none => rw [hf] at he; cases he
    | some ms' =>
      rw [hf] at he
      cases he
      exact ⟨F, _, _, h1, h2, fun F1 σ1 H1 s1 g1 => done (r := .fz .none) (v := .non) hf s1 g1 Rp.non q⟩
  · rename_i r' e1 h2
    cases hf : fin ks e1 with
    | none => rw [hf] at he; cases he
    | some ms' =>
      rw [hf] at he
      cases he
      exact ⟨F, _, _, h1, h2, fun F1 σ1 H1 v s1 g1 rt => done hf s1 g1 rt q⟩
  · cases he
/-- THE RULE: a def whose body reads as f keeps the promise of mkFn ks n f -/
theorem fnJ {x qual : Str} {st : Stmt} {fa : Addr} {fd : FuncData} {N ps : List Str} {k n : Nat} {ks : List PK} {f : SM} (Fu : Fun K x qual st fa fd) (S : FnScope N ps (defScope st)) (hk : ks.length = ps.length) (hN : N.length = ks.length + n)
    (hb : ∀ (cdv : Value) (A : Around) (outer : List PySem.Env) (s : Shared) (H : Hp) (E : XK) (C : FC), Room k (A.deeper (PyProof.Rows.envOfC qual (defScope st) s.heap.objs.size fa cdv)) → C.mp = mutI 0 ks → C.cl = mg → C.wx = (fun _ _ _ _ => False) →
      JSs (cxOf CX0 P w K mg base N qual (defScope st) fa cdv A outer s H E).nox C (defBody st) f) :
    FnOk P w K mg base CX0 (k + 1) fa fd ps (spJ K ks (mkFn ks n f)) := by
  refine Fu.ok S (fun vs H Q E h => ?_) fun cdv A outer s H vs Q E hr h => ?_
  · obtain ⟨F, ds, r, ms, _, ar, _⟩ := h
    rw [ar.len.1, hk]
  · obtain ⟨C, hC, hL, hW, z⟩ := runJ mg hN h
    exact ⟨_, hb cdv A outer s H E C hr hC hL hW, z⟩
end
/-! ### calls -/
section
variable {K : Fr} {C : FC} {F F' : Hp} {env env' : Env} {σ : St} {H H' : Hp}
def ItR (F : Hp) (σ : St) : It → V → Prop
  | .d d, v => Rp F v d
  | .r i, v => σ[i]? = some (some v)
  | .m i, v => σ[i]? = some (some v)
  | .s i, v => σ[i]? = some (some v)
inductive ItsR (F : Hp) (σ : St) : List It → List V → Prop
  | nil : ItsR F σ [] []
  | cons {x : It} {l : List It} {v : V} {vs : List V} : ItR F σ x v → ItsR F σ l vs → ItsR F σ (x :: l) (v :: vs)
theorem ItR.up {F F' : Hp} (s : Same F F') : ∀ {x : It} {v : V}, ItR F σ x v → ItR F' σ x v
  | .d d, v, h => Rp.up (show Rp F v d from h) s
  | .r i, v, h => h
  | .m i, v, h => h
  | .s i, v, h => h
def tArJ (K : Fr) (C : FC) (as : List Ar) : TA := fun σ H Q => ∃ F env l env', Hd K C F env σ H ∧ evA as env = some (l, env') ∧
  ∀ F' H' vs, Stp F env σ H F' env' H' → Hd K C F' env' σ H' → ItsR F' σ l vs → Q vs H'
def JAr (X : Cx) (C : FC) (es : List Expr) (as : List Ar) : Prop := PA X es (tArJ X.K C as)
end
section
variable {X : Cx} {C : FC} {e : Expr} {es : List Expr} {f : M RV} {as : List Ar}
theorem jar_nil : JAr X C [] [] := pa_weak pa_nil fun σ H Q ⟨F, env, l, env', hd, he, q⟩ => by
  simp only [evA] at he
  cases he
  exact q F H [] Stp.refl hd .nil
theorem jar_fz (ha : JE X C e f) (hr : JAr X C es as) (hs : starEach (e :: es) X.env = (false, eval e X.env) :: starEach es X.env := by rfl) : JAr X C (e :: es) (.fz f :: as) := by
  refine pa_weak (pa_cons ha hr hs) fun σ H Q ⟨F, env, l, env', hd, he, q⟩ => ?_
  simp only [evA] at he
  split at he
  · cases he
  rename_i x e1 h1
  split at he
  · cases he
  rename_i d e2 h2
  split at he
  · cases he
  rename_i l' e3 h3
  cases he
  refine tJ.go hd h1 fun F1 H1 v s1 g1 r1 => ?_
  obtain ⟨F2, s2, g2, r2, _⟩ := g1.fzv hd s1 r1 h2
  exact ⟨F2, e2, l', env', g2, h3, fun F3 H3 vs s3 g3 r3 => q F3 H3 _ (s2.trans s3) g3 (.cons (ItR.up (x := .d d) s3.exF r2) r3)⟩
theorem jar_bw (ha : JE X C e f) (hr : JAr X C es as) (hs : starEach (e :: es) X.env = (false, eval e X.env) :: starEach es X.env := by rfl) : JAr X C (e :: es) (.bw f :: as) := by
  refine pa_weak (pa_cons ha hr hs) fun σ H Q ⟨F, env, l, env', hd, he, q⟩ => ?_
  simp only [evA] at he
  split at he
  · cases he
  · rename_i d e1 h1
    split at he
    · cases he
    rename_i l' e3 h3
    cases he
    refine tJ.go hd h1 fun F1 H1 v s1 g1 r1 => ?_
    exact ⟨F1, e1, l', env', g1, h3, fun F3 H3 vs s3 g3 r3 => q F3 H3 _ (s1.trans s3) g3 (.cons (ItR.up (x := .d d) s3.exF r1) r3)⟩
  · rename_i ds e1 h1
    split at he
    · cases he
    rename_i l' e3 h3
    cases he
    refine tJ.go hd h1 fun F1 H1 v s1 g1 r1 => ?_
    obtain ⟨F2, s2, g2, r2, _⟩ := g1.fzv (env' := e1) (d := .list ds) hd s1 r1 rfl
    exact ⟨F2, e1, l', env', g2, h3, fun F3 H3 vs s3 g3 r3 => q F3 H3 _ (s2.trans s3) g3 (.cons (ItR.up (x := .d (.list ds)) s3.exF r2) r3)⟩
  · rename_i o e1 h1
    split at he
    · cases he
    rename_i l' e3 h3
    cases he
    refine tJ.go hd h1 fun F1 H1 v s1 g1 r1 => ?_
    obtain ⟨F2, s2, g2, r2, _⟩ := g1.fzv (env' := e1) (d := er o) hd s1 r1 rfl
    exact ⟨F2, e1, l', env', g2, h3, fun F3 H3 vs s3 g3 r3 => q F3 H3 _ (s2.trans s3) g3 (.cons (ItR.up (x := .d (er o)) s3.exF r2) r3)⟩
  · rename_i i e1 h1
    split at he
    · cases he
    rename_i l' e3 h3
    cases he
    refine tJ.go hd h1 fun F1 H1 v s1 g1 r1 => ?_
    exact ⟨F1, e1, l', env', g1, h3, fun F3 H3 vs s3 g3 r3 => q F3 H3 _ (s1.trans s3) g3 (.cons (show ItR F3 σ (.r i) v from r1) r3)⟩
theorem jar_mt {i : Nat} (ha : PE X e (tVar i)) (hr : JAr X C es as) (hs : starEach (e :: es) X.env = (false, eval e X.env) :: starEach es X.env := by rfl) : JAr X C (e :: es) (.mt i :: as) := by
  refine pa_weak (pa_cons ha hr hs) fun σ H Q ⟨F, env, l, env', hd, he, q⟩ => ?_
  simp only [evA] at he
  split at he
  · rename_i ds0 h0
    split at he
    · cases he
    rename_i l' e3 h3
    cases he
    obtain ⟨a, vs, p1, _⟩ := hd.ow i ds0 h0
    exact ⟨_, p1, F, env, l', env', hd, h3, fun F3 H3 vs s3 g3 r3 => q F3 H3 _ s3 g3 (.cons (show ItR F3 σ (.m i) _ from p1) r3)⟩
  · cases he
theorem jar_sc {i : Nat} (ha : PE X e (tVar i)) (hr : JAr X C es as) (hs : starEach (e :: es) X.env = (false, eval e X.env) :: starEach es X.env := by rfl) : JAr X C (e :: es) (.sc i :: as) := by
  refine pa_weak (pa_cons ha hr hs) fun σ H Q ⟨F, env, l, env', hd, he, q⟩ => ?_
  simp only [evA] at he
  split at he
  · rename_i ds0 h0
    split at he
    · cases he
    rename_i l' e3 h3
    cases he
    obtain ⟨a, vs, p1, _⟩ := hd.sc i ds0 h0
    exact ⟨_, p1, F, env, l', env', hd, h3, fun F3 H3 vs s3 g3 r3 => q F3 H3 _ s3 g3 (.cons (show ItR F3 σ (.s i) _ from p1) r3)⟩
  · cases he
/-- kinds and arguments go together -/
def fits : List PK → List Ar → Bool
  | [], [] => true
  | .fz :: ks, .fz _ :: as => fits ks as
  | .bw :: ks, .bw _ :: as => fits ks as
  | .mt :: ks, .mt _ :: as => fits ks as
  | .sc :: ks, .sc _ :: as => fits ks as
  | _, _ => false
def fitsI : List PK → List It → Bool
  | [], [] => true
  | .fz :: ks, .d _ :: as => fitsI ks as
  | .bw :: ks, .d _ :: as => fitsI ks as
  | .bw :: ks, .r _ :: as => fitsI ks as
  | .mt :: ks, .m _ :: as => fitsI ks as
  | .sc :: ks, .s _ :: as => fitsI ks as
  | _, _ => false
theorem fits_of : ∀ {as : List Ar} {ks : List PK} {env env' : Env} {l : List It}, evA as env = some (l, env') → fits ks as = true → fitsI ks l = true
  | [], ks, env, env', l, h, hf => by
    simp only [evA] at h
    cases h
    cases ks with
    | nil => rfl
    | cons k ks => cases k <;> simp [fits] at hf
  | .fz f :: as, ks, env, env', l, h, hf => by
    cases ks with
    | nil => simp [fits] at hf
    | cons k ks =>
      cases k <;> simp [fits] at hf
      simp only [evA] at h
      split at h
      · cases h
      split at h
      · cases h
      split at h
      · cases h
      rename_i h3
      cases h
      simpa [fitsI] using fits_of h3 hf
  | .bw f :: as, ks, env, env', l, h, hf => by
    cases ks with
    | nil => simp [fits] at hf
    | cons k ks =>
      cases k <;> simp [fits] at hf
      simp only [evA] at h
      split at h
      · cases h
      all_goals
        split at h
        · cases h
        rename_i h3
        cases h
        simpa [fitsI] using fits_of h3 hf
  | .mt f :: as, ks, env, env', l, h, hf => by
    cases ks with
    | nil => simp [fits] at hf
    | cons k ks =>
      cases k <;> simp [fits] at hf
      simp only [evA] at h
      split at h
      · split at h
        · cases h
        rename_i h3
        cases h
        simpa [fitsI] using fits_of h3 hf
      · cases h
  | .sc f :: as, ks, env, env', l, h, hf => by
    cases ks with
    | nil => simp [fits] at hf
    | cons k ks =>
      cases k <;> simp [fits] at hf
      simp only [evA] at h
      split at h
      · split at h
        · cases h
        rename_i h3
        cases h
        simpa [fitsI] using fits_of h3 hf
      · cases h
end
section
variable {K : Fr} {C : FC} {F F' : Hp} {env env' : Env} {σ : St} {H H' : Hp}
/-- slots and the addresses that they hold -/
inductive SlA (σ : St) : List Nat → List Addr → Prop
  | nil : SlA σ [] []
  | cons {i : Nat} {is : List Nat} {a : Addr} {as : List Addr} : σ[i]? = some (some (V.ref a)) → SlA σ is as → SlA σ (i :: is) (a :: as)
theorem SlA.get : ∀ {is : List Nat} {as : List Addr}, SlA σ is as → ∀ a ∈ as, ∃ i ∈ is, σ[i]? = some (some (V.ref a))
  | _, _, .nil, a, h => absurd h (by simp)
  | _, _, .cons h1 t, a, h => by
    rcases List.mem_cons.mp h with e | e
    · subst e; exact ⟨_, List.mem_cons_self, h1⟩
    · obtain ⟨i, p, q⟩ := SlA.get t a e
      exact ⟨i, List.mem_cons_of_mem _ p, q⟩
theorem sla_of : ∀ {ks : List PK} {l : List It} {vs : List V} {ds : List D}, Hd K C F env σ H → fitsI ks l = true → ItsR F σ l vs → itDs env l = some ds → SlA σ (muts l) (mutA ks vs)
  | [], [], _, _, _, _, .nil, _ => .nil
  | [], _ :: _, _, _, _, h, _, _ => by simp [fitsI] at h
  | k :: ks, [], _, _, _, h, _, _ => by cases k <;> simp [fitsI] at h
  | k :: ks, x :: l, v :: vs, ds, hd, h, .cons r rs, he => by
    have tl : ∃ ds', itDs env l = some ds' := by
      simp only [itDs] at he
      split at he
      · rename_i d ds' _ h2
        exact ⟨ds', h2⟩
      · cases he
    obtain ⟨ds', h2⟩ := tl
    cases k <;> cases x <;> simp only [fitsI] at h <;> try (cases h)
    · simpa [muts, mutA] using sla_of hd h rs h2
    · simpa [muts, mutA] using sla_of hd h rs h2
    · simpa [muts, mutA] using sla_of hd h rs h2
    · rename_i i
      simp only [itDs, itD] at he
      have : ∃ es, env[i]? = some (.ow es) := by
        split at he
        · rename_i d es h1 _
          split at h1
          · rename_i es' p
            exact ⟨es', p⟩
          · cases h1
        · cases he
      obtain ⟨es, p⟩ := this
      obtain ⟨a, ws, p1, _⟩ := hd.ow i es p
      have r' : σ[i]? = some (some v) := r
      rw [p1] at r'
      cases r'
      simp only [muts, mutA]
      exact .cons p1 (sla_of hd h rs h2)
    · simpa [muts, mutA] using sla_of hd h rs h2
theorem itDs_cons {x : It} {l : List It} {ds : List D} (h : itDs env (x :: l) = some ds) : ∃ d ds', itD env x = some d ∧ itDs env l = some ds' ∧ ds = d :: ds' := by
  simp only [itDs] at h
  split at h
  · rename_i d ds' h1 h2
    cases h
    exact ⟨d, ds', h1, h2, rfl⟩
  · cases h
theorem muts_ow : ∀ {l : List It} {ds : List D}, itDs env l = some ds → ∀ i ∈ muts l, ∃ es, env[i]? = some (.ow es)
  | [], _, _, i, h => absurd h (by simp [muts])
  | x :: l, ds, he, i, h => by
    obtain ⟨d, ds', h1, h2, _⟩ := itDs_cons he
    cases x with
    | m j =>
      simp only [muts] at h
      rcases List.mem_cons.mp h with e | e
      · subst e
        simp only [itD] at h1
        split at h1
        · rename_i es p
          exact ⟨es, p⟩
        · cases h1
      · exact muts_ow h2 i e
    | d _ => exact muts_ow h2 i (by simpa [muts] using h)
    | r _ => exact muts_ow h2 i (by simpa [muts] using h)
    | s _ => exact muts_ow h2 i (by simpa [muts] using h)
theorem args_of {Mu : List Addr} (hd : Hd K C F env σ H) (hM : ∀ a ∈ Mu, F a = none ∧ (C.H0 a = none ∨ a ∈ C.Mu)) : ∀ {ks : List PK} {l : List It} {vs : List V} {ds : List D}, (∀ i ∈ lent l, ∀ (es : List D) a, env[i]? = some (.ow es) → σ[i]? = some (some (V.ref a)) → a ∉ Mu) → fitsI ks l = true → ItsR F σ l vs → itDs env l = some ds → ArgsR K F H Mu ks vs ds
  | [], [], _, _, _, _, .nil, he => by simp only [itDs] at he; cases he; exact .nil
  | [], _ :: _, _, _, _, h, _, _ => by simp [fitsI] at h
  | k :: ks, [], _, _, _, h, _, _ => by cases k <;> simp [fitsI] at h
  | k :: ks, x :: l, v :: vs, ds, hL, h, .cons r rs, he => by
    obtain ⟨d, ds', h1, h2, rfl⟩ := itDs_cons he
    -- no changed list is frozen, lent from outside or the script
    have no1 : ∀ a vs, F a = some (.lst vs) → a ∉ Mu := fun a vs z m => by
      have q3 := (hM a m).1
      rw [z] at q3; cases q3
    have no2 : ∀ a o, C.H0 a = some o → a ∉ C.Mu → a ∉ Mu := fun a o z n m => by
      rcases (hM a m).2 with q5 | q5
      · rw [z] at q5; cases q5
      · exact n q5
    have hL' : ∀ i ∈ lent l, ∀ (es : List D) a, env[i]? = some (.ow es) → σ[i]? = some (some (V.ref a)) → a ∉ Mu := fun i hi => hL i (by cases x <;> simp [lent, hi])
    cases k <;> cases x <;> simp only [fitsI] at h <;> try (cases h)
    · simp only [itD] at h1
      cases h1
      exact .cons (show Rp F v d from r) (args_of hd hM hL' h rs h2)
    · simp only [itD] at h1
      cases h1
      have r' : Rp F v d := r
      refine .cons ?_ (args_of hd hM hL' h rs h2)
      cases r' with
      | lst p1 p2 => exact .inl ⟨_, _, _, rfl, rfl, hd.ex _ _ p1, no1 _ _ p1, p2⟩
      | non => exact .inr ⟨(fun ds z => by cases z), .non⟩
      | bl b => exact .inr ⟨(fun ds z => by cases z), .bl b⟩
      | int b => exact .inr ⟨(fun ds z => by cases z), .int b⟩
      | str b => exact .inr ⟨(fun ds z => by cases z), .str b⟩
      | tup p1 p2 => exact .inr ⟨(fun ds z => by cases z), .tup p1 p2⟩
    · rename_i i
      have r' : σ[i]? = some (some v) := r
      refine .cons ?_ (args_of hd hM hL' h rs h2)
      simp only [itD, dr] at h1
      split at h1
      · rename_i d' p
        cases h1
        obtain ⟨u, q1, q2⟩ := hd.fz i _ p
        rw [r'] at q1; cases q1
        cases q2 with
        | lst p1 p2 => exact .inl ⟨_, _, _, rfl, rfl, hd.ex _ _ p1, no1 _ _ p1, p2⟩
        | non => exact .inr ⟨(fun ds z => by cases z), .non⟩
        | bl b => exact .inr ⟨(fun ds z => by cases z), .bl b⟩
        | int b => exact .inr ⟨(fun ds z => by cases z), .int b⟩
        | str b => exact .inr ⟨(fun ds z => by cases z), .str b⟩
        | tup p1 p2 => exact .inr ⟨(fun ds z => by cases z), .tup p1 p2⟩
      · rename_i es p
        cases h1
        obtain ⟨a, ws, q1, q2, q3, q4, q5⟩ := hd.ow i _ p
        rw [r'] at q1; cases q1
        exact .inl ⟨a, ws, es, rfl, rfl, q2, hL i (by simp [lent]) es a p r', q4⟩
      · rename_i es p
        cases h1
        obtain ⟨a, ws, q1, q2, q3, q4⟩ := hd.bw i _ p
        rw [r'] at q1; cases q1
        exact .inl ⟨a, ws, es, rfl, rfl, hd.keep _ _ q2 q3, no2 a _ q2 q3, q4⟩
      · cases h1
    · rename_i i
      have r' : σ[i]? = some (some v) := r
      refine .cons ?_ (args_of hd hM hL' h rs h2)
      simp only [itD] at h1
      split at h1
      · rename_i es p
        cases h1
        obtain ⟨a, ws, q1, q2, q3, q4, q5⟩ := hd.ow i _ p
        rw [r'] at q1; cases q1
        exact ⟨a, ws, es, rfl, rfl, q2, q3, q4⟩
      · cases h1
    · rename_i i
      have r' : σ[i]? = some (some v) := r
      refine .cons ?_ (args_of hd hM hL' h rs h2)
      simp only [itD] at h1
      split at h1
      · rename_i es p
        cases h1
        obtain ⟨a, ns, q1, q2, q3⟩ := hd.sc i _ p
        rw [r'] at q1; cases q1
        refine ⟨a, ns, rfl, by rw [q2], ?_⟩
        rcases q3 with ⟨q3, q4⟩ | q3
        · refine .inl ⟨?_, ?_⟩
          · rcases q3 with z | ⟨o, z⟩
            · exact .inl (hd.keep _ _ z q4)
            · exact .inr ⟨o, hd.keep _ _ z q4⟩
          · rcases q3 with z | ⟨o, z⟩
            · exact no2 a _ z q4
            · exact no2 a _ z q4
        · exact .inr q3
      · cases h1
theorem setM_get : ∀ {is : List Nat} {ms : List (List D)} {env : Env} {j : Nat} {s : Sl}, is.length = ms.length → (setM is ms env)[j]? = some s → (∃ (k : Nat) (ds : List D), is[k]? = some j ∧ ms[k]? = some ds ∧ s = .ow ds) ∨ (j ∉ is ∧ env[j]? = some s)
  | [], [], env, j, s, _, h => .inr ⟨by simp, h⟩
  | [], _ :: _, _, _, _, hl, _ => by simp at hl
  | _ :: _, [], _, _, _, hl, _ => by simp at hl
  | i :: is, ds :: ms, env, j, s, hl, h => by
    rcases setM_get (is := is) (ms := ms) (by simpa using hl) h with ⟨k, es, h1, h2, h3⟩ | ⟨h1, h2⟩
    · exact .inl ⟨k + 1, es, by simpa using h1, by simpa using h2, h3⟩
    · rcases set_get h2 with ⟨e, e2, _⟩ | ⟨e, h2⟩
      · exact .inl ⟨0, ds, by simp [e], rfl, e2⟩
      · exact .inr ⟨by rw [List.mem_cons, not_or]; exact ⟨fun z => e z.symm, h1⟩, h2⟩
theorem setM_len : ∀ {is : List Nat} {ms : List (List D)} {env : Env}, (setM is ms env).length = env.length
  | [], _, _ => rfl
  | _ :: _, [], _ => rfl
  | i :: is, ds :: ms, env => by
    show (setM is ms (env.set i (.ow ds))).length = env.length
    rw [setM_len, List.length_set]
theorem SlA.at : ∀ {is : List Nat} {as : List Addr} {k i : Nat}, SlA σ is as → is[k]? = some i → ∃ a, as[k]? = some a ∧ σ[i]? = some (some (V.ref a))
  | _, _, _, _, .nil, h => by simp at h
  | _, _, 0, _, .cons h1 t, h => by simp at h; subst h; exact ⟨_, rfl, h1⟩
  | _, _, k + 1, _, .cons h1 t, h => by
    obtain ⟨a, p, q⟩ := SlA.at (k := k) t (by simpa using h)
    exact ⟨a, by simpa using p, q⟩
theorem MutsR.at {F H : Hp} : ∀ {as : List Addr} {q : List (List D)} {k : Nat} {a : Addr} {ds : List D}, MutsR F H as q → as[k]? = some a → q[k]? = some ds → ∃ vs, H a = some (.lst vs) ∧ F a = none ∧ RpA F vs ds
  | _, _, _, _, _, .nil, h, _ => by simp at h
  | _, _, 0, _, _, .cons h1 h2 h3 t, p, q => by simp at p q; subst p q; exact ⟨_, h1, h2, h3⟩
  | _, _, k + 1, _, _, .cons h1 h2 h3 t, p, q => MutsR.at (k := k) t (by simpa using p) (by simpa using q)
/-- the state behind a call; the lists Tm are no slot's -/
theorem Hd.called2 (hd : Hd K C F env σ H) {is : List Nat} {as Tm : List Addr} {ms : List (List D)} (sl : SlA σ is as) (ow : ∀ i ∈ is, ∃ es, env[i]? = some (.ow es)) (hl : is.length = ms.length) (hT : ∀ a ∈ Tm, C.H0 a = none ∧ NotOw env σ H a)
    (s1 : Same F F') (s2 : Same F' H') (kp : ∀ a o, H a = some o → a ∉ as → a ∉ Tm → H' a = some o) (old : ∀ a, H' a = none → H a = none) (dom : ∀ a, F' a ≠ none → F a ≠ none ∨ H a = none) (mu : MutsR F' H' as ms) :
    Hd K C F' (setM is ms env) σ H' ∧ (∀ a o, F a = none → H a = some o → NotOw env σ H a → a ∉ Tm → F' a = none ∧ H' a = some o) ∧ (∀ (i : Nat) (ds : List D), (setM is ms env)[i]? = some (.ow ds) → ∃ es, env[i]? = some (.ow es)) ∧
    (∀ (i : Nat) (o : Ob), (setM is ms env)[i]? = some (.nt o) → env[i]? = some (.nt o) ∧ ∀ v, σ[i]? = some (some v) → foot H' o v = foot H o v) ∧ ∀ a, H a = none → NotOw (setM is ms env) σ H' a := by
  have fn : ∀ a o, F a = none → H a = some o → F' a = none := fun a o z1 z2 => by
    cases e : F' a with
    | none => rfl
    | some u =>
      rcases dom a (by rw [e]; simp) with z | z
      · exact absurd z1 z
      · rw [z2] at z; cases z
  have addr : ∀ a ∈ as, ∃ (i : Nat) (es : List D), i ∈ is ∧ env[i]? = some (.ow es) ∧ σ[i]? = some (some (V.ref a)) := fun a ha => by
    obtain ⟨i, h1, h2⟩ := sl.get a ha
    obtain ⟨es, h3⟩ := ow i h1
    exact ⟨i, es, h1, h3, h2⟩
  have back : ∀ (i : Nat) (ds : List D), (setM is ms env)[i]? = some (.ow ds) → ∃ es, env[i]? = some (.ow es) := fun i ds q => by
    rcases setM_get hl q with ⟨k, es, h1, _, _⟩ | ⟨_, h2⟩
    · exact ow i (List.mem_of_getElem? h1)
    · exact ⟨ds, h2⟩
  have keepH : ∀ a o, C.H0 a = some o → a ∉ C.Mu → H' a = some o := fun a o z n => by
    refine kp a o (hd.keep a o z n) (fun m => ?_) (fun m => by rw [(hT a m).1] at z; cases z)
    obtain ⟨i, es, _, p, q⟩ := addr a m
    obtain ⟨b, ws, q1, q2, q3, q4, q5⟩ := hd.ow i es p
    rw [q] at q1; cases q1
    rcases q5 with q5 | q5
    · rw [z] at q5; cases q5
    · exact n q5
  have gnt : ∀ {i : Nat} {o : Ob}, (setM is ms env)[i]? = some (.nt o) → env[i]? = some (.nt o) := fun {i o} q => by
    rcases setM_get hl q with ⟨k, es, _, _, e⟩ | ⟨_, h2⟩
    · cases e
    · exact h2
  have kpa : ∀ {i : Nat} {o : Ob} {v : V} (q : env[i]? = some (.nt o)) (z : σ[i]? = some (some v)), ∀ a ∈ foot H o v, H' a = H a ∧ F' a = none := fun {i o v} q z a m => by
    obtain ⟨w1, w2⟩ := okO_at o v (hd.footN q z).1 a m
    cases e : H a with
    | none => exact absurd e w1
    | some u =>
      refine ⟨kp a u e (fun m' => ?_) (fun m' => (hT a m').2.nt i o v q z m), fn a u w2 e⟩
      obtain ⟨j, es, _, p, r⟩ := addr a m'
      exact hd.nto i j o es v a q p z r m
  have kpN : ∀ {i : Nat} {o : Ob} {v : V}, env[i]? = some (.nt o) → σ[i]? = some (some v) → foot H' o v = foot H o v := fun {i o v} q z => foot_keep o v fun a m => (kpa q z a m).1
  refine ⟨⟨s2, by rw [setM_len]; exact hd.len, fun i d q => ?_, fun i ds q => ?_, fun i ds q => ?_, fun i ds q => ?_, fun i j ds es a q1 q2 p1 p2 => ?_, keepH, fun a z => hd.old a (old a z), fun a z => ?_, hd.mps, fun i o q => ?_, fun i j o o' w w' a q1 q2 z1 z2 m1 m2 => ?_, fun i j o ds w a q1 q2 z1 z2 m => ?_⟩, fun a o z1 z2 n nt => ⟨fn a o z1 z2, kp a o z2 (fun m => ?_) nt⟩, back, fun i o q => ⟨gnt q, fun v z => kpN (gnt q) z⟩, fun a z => ⟨fun j es q w => ?_, fun j o w q p m => ?_⟩⟩
  · rcases setM_get hl q with ⟨k, es, _, _, e⟩ | ⟨_, h2⟩
    · cases e
    · obtain ⟨v, p1, p2⟩ := hd.fz i d h2
      exact ⟨v, p1, p2.up s1⟩
  · rcases setM_get hl q with ⟨k, es, h1, h2, e⟩ | ⟨h1, h2⟩
    · cases e
      obtain ⟨a, p1, p2⟩ := sl.at h1
      obtain ⟨vs, p3, p4, p5⟩ := mu.at p1 h2
      obtain ⟨es', h3⟩ := ow i (List.mem_of_getElem? h1)
      obtain ⟨b, ws, q1, _, _, _, q5⟩ := hd.ow i es' h3
      rw [p2] at q1; cases q1
      exact ⟨a, vs, p2, p3, p4, p5, q5⟩
    · obtain ⟨a, vs, p1, p2, p3, p4, p5⟩ := hd.ow i ds h2
      refine ⟨a, vs, p1, kp a _ p2 (fun m => ?_) (fun m => (hT a m).2.ow i ds h2 p1), fn a _ p3 p2, p4.up s1, p5⟩
      obtain ⟨j, es, j1, j2, j3⟩ := addr a m
      have := hd.inj i j ds es a h2 j2 p1 j3
      rw [this] at h1
      exact h1 j1
  · rcases setM_get hl q with ⟨k, es, _, _, e⟩ | ⟨_, h2⟩
    · cases e
    · obtain ⟨a, vs, p1, p2, p3, p4⟩ := hd.bw i ds h2
      exact ⟨a, vs, p1, p2, p3, p4.up s1⟩
  · rcases setM_get hl q with ⟨k, es, _, _, e⟩ | ⟨_, h2⟩
    · cases e
    · exact hd.sc i ds h2
  · obtain ⟨_, z1⟩ := back i ds q1
    obtain ⟨_, z2⟩ := back j es q2
    exact hd.inj i j _ _ a z1 z2 p1 p2
  · rcases dom a z with p | p
    · exact hd.dom a p
    · exact .inr (.inl (hd.old a p))
  · obtain ⟨v, h1, h2, h3⟩ := hd.nt i o (gnt q)
    refine ⟨v, h1, okO_keep s1 o v h2 (kpa (gnt q) h1), ?_⟩
    rw [kpN (gnt q) h1]; exact h3
  · rw [kpN (gnt q1) z1] at m1
    rw [kpN (gnt q2) z2] at m2
    exact hd.ntj i j o o' w w' a (gnt q1) (gnt q2) z1 z2 m1 m2
  · obtain ⟨_, q2⟩ := back j ds q2
    rw [kpN (gnt q1) z1] at m
    exact hd.nto i j o _ w a (gnt q1) q2 z1 z2 m
  · obtain ⟨i, es, _, p, q⟩ := addr a m
    exact n.ow i es p q
  · obtain ⟨_, q⟩ := back j es q
    obtain ⟨b, ws, q1, q2, _⟩ := hd.ow j _ q
    rw [w] at q1; cases q1
    rw [q2] at z; cases z
  · rw [kpN (gnt q) p] at m
    exact (okO_at o w (hd.footN (gnt q) p).1 a m).1 z
/-- the state behind a call -/
theorem Hd.called (hd : Hd K C F env σ H) {is : List Nat} {as : List Addr} {ms : List (List D)} (sl : SlA σ is as) (ow : ∀ i ∈ is, ∃ es, env[i]? = some (.ow es)) (hl : is.length = ms.length)
    (s1 : Same F F') (s2 : Same F' H') (kp : ∀ a o, H a = some o → a ∉ as → H' a = some o) (old : ∀ a, H' a = none → H a = none) (dom : ∀ a, F' a ≠ none → F a ≠ none ∨ H a = none) (mu : MutsR F' H' as ms) :
    Hd K C F' (setM is ms env) σ H' ∧ Stp F env σ H F' (setM is ms env) H' ∧ ∀ a, H a = none → NotOw (setM is ms env) σ H' a := by
  obtain ⟨h1, h2, h3, h4, h5⟩ := hd.called2 (Tm := []) sl ow hl (fun a h => absurd h (by simp)) s1 s2 (fun a o z1 z2 _ => kp a o z1 z2) old dom mu
  exact ⟨h1, ⟨s1, fun a o z1 z2 n => h2 a o z1 z2 n (by simp), h3, old, fun i o q => ⟨o, (h4 i o q).1, fun v a z m _ => by rw [(h4 i o q).2 v z] at m; exact m⟩⟩, h5⟩
end
section
variable {X : Cx} {C : FC} {as : List Ar} {ks : List PK} {fn : FnS} {ce : Expr}
/-- a call; h by pe_call -/
theorem je_call (hf : fits ks as = true) (h : PE X ce (tCall (spJ X.K ks fn) [] E0 (tArJ X.K C as))) : JE X C ce (eCall fn as) := by
  refine pe_weak h fun σ H Q ⟨F, env, rv, env', hd, he, q⟩ => ?_
  simp only [eCall] at he
  split at he
  · cases he
  rename_i l e1 h1
  split at he
  · rename_i hok
    split at he
    · cases he
    rename_i ds h2
    have core : ∀ r ms, fn ds = some (r, ms) → ms.length = (muts l).length → env' = setM (muts l) ms e1 → rv = toRV r → tCall (spJ X.K ks fn) [] E0 (tArJ X.K C as) σ H Q := fun r ms h3 h4 h5 h6 => by
      subst h5 h6
      refine ⟨F, env, l, e1, hd, h1, fun F1 H1 vs s1 g1 r1 => ?_⟩
      show spJ X.K ks fn (vs ++ []) H1 Q E0
      rw [List.append_nil]
      have hfi := fits_of h1 hf
      have sl := sla_of g1 hfi r1 h2
      have ow := muts_ow h2
      rw [okM, Bool.and_eq_true] at hok
      obtain ⟨ok1, ok2⟩ := hok
      have ok2' : (muts l).Nodup := of_decide_eq_true ok2
      have ok1' : ∀ i ∈ muts l, i ∉ lent l := fun i hi z => by
        have := List.all_eq_true.mp ok1 i hi
        simp at this
        exact this z
      have inj : ∀ (i j : Nat) (a : Addr), i ∈ muts l → j ∈ muts l → σ[i]? = some (some (V.ref a)) → σ[j]? = some (some (V.ref a)) → i = j := fun i j a hi hj p1 p2 => by
        obtain ⟨es, z1⟩ := ow i hi
        obtain ⟨es', z2⟩ := ow j hj
        exact g1.inj i j es es' a z1 z2 p1 p2
      have ndA : ∀ {is : List Nat} {as : List Addr}, SlA σ is as → is.Nodup → (∀ i ∈ is, i ∈ muts l) → as.Nodup := by
        intro is
        induction is with
        | nil => intro as s _ _; cases s; exact List.nodup_nil
        | cons i is ih =>
          intro as s nd sub
          cases s with
          | cons p t =>
            refine List.nodup_cons.mpr ⟨fun m => ?_, ih t (List.nodup_cons.mp nd).2 fun j hj => sub j (List.mem_cons_of_mem _ hj)⟩
            obtain ⟨j, j1, j2⟩ := t.get _ m
            have := inj i j _ (sub i List.mem_cons_self) (sub j (List.mem_cons_of_mem _ j1)) p j2
            rw [this] at nd
            exact (List.nodup_cons.mp nd).1 j1
      have hM : ∀ a ∈ mutA ks vs, ∃ (i : Nat) (es : List D), e1[i]? = some (.ow es) ∧ σ[i]? = some (some (V.ref a)) := fun a m => by
        obtain ⟨i, i1, i2⟩ := sl.get a m
        obtain ⟨es, i3⟩ := ow i i1
        exact ⟨i, es, i3, i2⟩
      have hM' : ∀ a ∈ mutA ks vs, F1 a = none ∧ (C.H0 a = none ∨ a ∈ C.Mu) := fun a m => by
        obtain ⟨i, es, p, q⟩ := hM a m
        obtain ⟨b, ws, q1, q2, q3, q4, q5⟩ := g1.ow i es p
        rw [q] at q1; cases q1
        exact ⟨q3, q5⟩
      refine ⟨F1, ds, r, ms, g1.ex, args_of g1 hM' (fun i hi es a z p m => ?_) hfi r1 h2, ndA sl ok2' fun _ z => z, h3, fun v F' H' s1' s2' kp old dom mu res => ?_⟩
      · obtain ⟨j, j1, j2⟩ := sl.get a m
        obtain ⟨es', j3⟩ := ow j j1
        have := g1.inj i j es es' a z j3 p j2
        exact ok1' j j1 (by rw [← this]; exact hi)
      · obtain ⟨g2, s2, nn⟩ := g1.called sl ow h4.symm s1' s2' kp old dom mu
        refine q F' H' v (s1.trans s2) g2 ?_
        cases r with
        | fz d => exact res
        | ow ds' =>
          obtain ⟨a, ws, rfl, p1, p2, p3, p4⟩ := res
          exact ⟨a, ws, rfl, p3, p2, p4, s1.old a p1, nn a p1⟩
        | nt o => exact ⟨res.1, fun a m => ⟨s1.old a (res.2 a m), nn a (res.2 a m)⟩⟩
    split at he
    · rename_i d ms h3
      split at he
      · rename_i h4
        cases he
        exact core (.fz d) ms h3 h4 rfl rfl
      · cases he
    · rename_i d ms h3
      split at he
      · rename_i h4
        cases he
        exact core (.ow d) ms h3 h4 rfl rfl
      · cases he
    · rename_i d ms h3
      split at he
      · rename_i h4
        cases he
        exact core (.nt d) ms h3 h4 rfl rfl
      · cases he
    · cases he
  · cases he
/-- the same, the first argument a fresh list that the def changes -/
theorem je_callT {f : M RV} (hf : fits ks as = true) (h : PE X ce (tCall (spJ X.K (.mt :: ks) fn) [] E0 (tCons (tJ X.K C f) (tArJ X.K C as)))) : JE X C ce (eCallT fn f as) := by
  refine pe_weak h fun σ H Q ⟨F, env, rv, env', hd, he, q⟩ => ?_
  simp only [eCallT] at he
  split at he
  · rename_i xs e0 h0
    split at he
    · cases he
    rename_i l e1 h1
    split at he
    · rename_i hok
      split at he
      · cases he
      rename_i ds h2
      split at he
      · rename_i r m0 ms h3
        split at he
        · rename_i h4
          cases he
          refine tJ.go hd h0 fun F0 H0 v0 s0 g0 r0 => ⟨F0, e0, l, e1, g0, h1, fun F1 H1 vs s1 g1 r1 => ?_⟩
          obtain ⟨t, ws, rfl, t1, t2, t3, t4, t5⟩ := r0.step s1
          show spJ X.K (.mt :: ks) fn (V.ref t :: vs ++ []) H1 Q E0
          rw [List.append_nil]
          have hfi := fits_of h1 hf
          have sl := sla_of g1 hfi r1 h2
          have ow := muts_ow h2
          rw [okM, Bool.and_eq_true] at hok
          obtain ⟨ok1, ok2⟩ := hok
          have ok2' : (muts l).Nodup := of_decide_eq_true ok2
          have ok1' : ∀ i ∈ muts l, i ∉ lent l := fun i hi z => by
            have := List.all_eq_true.mp ok1 i hi
            simp at this
            exact this z
          have inj : ∀ (i j : Nat) (a : Addr), i ∈ muts l → j ∈ muts l → σ[i]? = some (some (V.ref a)) → σ[j]? = some (some (V.ref a)) → i = j := fun i j a hi hj p1 p2 => by
            obtain ⟨es, z1⟩ := ow i hi
            obtain ⟨es', z2⟩ := ow j hj
            exact g1.inj i j es es' a z1 z2 p1 p2
          have ndA : ∀ {is : List Nat} {as : List Addr}, SlA σ is as → is.Nodup → (∀ i ∈ is, i ∈ muts l) → as.Nodup := by
            intro is
            induction is with
            | nil => intro as s _ _; cases s; exact List.nodup_nil
            | cons i is ih =>
              intro as s nd sub
              cases s with
              | cons p t =>
                refine List.nodup_cons.mpr ⟨fun m => ?_, ih t (List.nodup_cons.mp nd).2 fun j hj => sub j (List.mem_cons_of_mem _ hj)⟩
                obtain ⟨j, j1, j2⟩ := t.get _ m
                have := inj i j _ (sub i List.mem_cons_self) (sub j (List.mem_cons_of_mem _ j1)) p j2
                rw [this] at nd
                exact (List.nodup_cons.mp nd).1 j1
          have tn : t ∉ mutA ks vs := fun m => by
            obtain ⟨i, i1, i2⟩ := sl.get t m
            obtain ⟨es, i3⟩ := ow i i1
            exact t5.ow i es i3 i2
          have t0 : C.H0 t = none := hd.old t t4
          have hM : ∀ a ∈ t :: mutA ks vs, F1 a = none ∧ (C.H0 a = none ∨ a ∈ C.Mu) := fun a m => by
            rcases List.mem_cons.mp m with rfl | m
            · exact ⟨t2, .inl t0⟩
            · obtain ⟨i, i1, i2⟩ := sl.get a m
              obtain ⟨es, i3⟩ := ow i i1
              obtain ⟨b, ws', q1, q2, q3, q4, q5⟩ := g1.ow i es i3
              rw [i2] at q1; cases q1
              exact ⟨q3, q5⟩
          have ar := args_of (Mu := t :: mutA ks vs) g1 hM (fun i hi es a z p m => by
            rcases List.mem_cons.mp m with rfl | m
            · exact t5.ow i es z p
            · obtain ⟨j, j1, j2⟩ := sl.get a m
              obtain ⟨es', j3⟩ := ow j j1
              have := g1.inj i j es es' a z j3 p j2
              exact ok1' j j1 (by rw [← this]; exact hi)) hfi r1 h2
          refine ⟨F1, .list xs :: ds, r, m0 :: ms, g1.ex, .cons ⟨t, ws, xs, rfl, rfl, t1, t2, t3⟩ ar, List.nodup_cons.mpr ⟨tn, ndA sl ok2' fun _ z => z⟩, h3, fun v F' H' s1' s2' kp old dom mu res => ?_⟩
          have mu' : MutsR F' H' (mutA ks vs) ms := by
            cases (show MutsR F' H' (t :: mutA ks vs) (m0 :: ms) from mu) with
            | cons _ _ _ z => exact z
          obtain ⟨g2, tmp2, back, bkN, nn⟩ := g1.called2 (Tm := [t]) sl ow h4.symm (fun a m => by rw [List.mem_singleton.mp m]; exact ⟨t0, t5⟩) s1' s2'
            (fun a o z1 z2 z3 => kp a o z1 (fun m => by
              rcases List.mem_cons.mp (show a ∈ t :: mutA ks vs from m) with w | w
              · exact z3 (by rw [w]; exact List.mem_singleton_self _)
              · exact z2 w)) old dom mu'
          have s01 := s0.trans s1
          refine q F' H' v ⟨s01.exF.trans s1', fun a o z1 z2 n => ?_, fun i ds z => ?_, fun a z => s01.old a (old a z), fun i o z => ?_⟩ g2 ?_
          · obtain ⟨p1, p2⟩ := s01.tmp a o z1 z2 n
            exact tmp2 a o p1 p2 (n.stp s01 (some_ne z2)) fun m => by
              rw [List.mem_singleton.mp m, t4] at z2
              cases z2
          · obtain ⟨es, w⟩ := back i ds z
            exact s01.sub i es w
          · obtain ⟨z1, z2⟩ := bkN i o z
            obtain ⟨o', z3, z4⟩ := s01.subN i o z1
            exact ⟨o', z3, fun v a z5 m hx => z4 v a z5 (by rw [z2 v z5] at m; exact m) hx⟩
          · cases r with
            | fz d => exact res
            | ow ds' =>
              obtain ⟨a, ws', rfl, p1, p2, p3, p4⟩ := res
              exact ⟨a, ws', rfl, p3, p2, p4, s01.old a p1, nn a p1⟩
            | nt o => exact ⟨res.1, fun a m => ⟨s01.old a (res.2 a m), nn a (res.2 a m)⟩⟩
        · cases he
      · cases he
    · cases he
  · cases he
end
end J
namespace J
open PySem L2
/-! ### the operators' and built-ins' rules are kept -/
theorem lim_eq : limit = sizeLine := by rw [sizeLine_eq]; rfl
section
variable {X : Cx}
/-- () + t gives t itself -/
def rCat0 (K : Fr) : R2 := fun x y H Q => ∃ a b ys, x = V.ref a ∧ y = V.ref b ∧ SqT K H a [] ∧ SqT K H b ys ∧ Q (.ref b) H
theorem op_cat0 : OpR X (binaryOp .Add) (rCat0 X.K) := by
  intro pins s σ H x y v u Q I rx ry h
  obtain ⟨a, b, ys, rfl, rfl, ha, hb, q⟩ := h
  cases rx
  cases ry
  obtain ⟨is, r1, ⟨⟨c1, d1, t1, l1⟩, o1, e1, n1, f1⟩, _⟩ := I.tuple ha
  obtain ⟨js, r2, ⟨⟨c2, d2, t2, l2⟩, o2, e2, n2, f2⟩, _⟩ := I.tuple hb
  replace e1 : c1 = .type "tuple" := e1
  replace f1 : t1 = .seq is.toArray n1 := f1
  replace e2 : c2 = .type "tuple" := e2
  replace f2 : t2 = .seq js.toArray n2 := f2
  subst e1 f1 e2 f2
  have z : is = [] := r1.nil_iff.mpr rfl
  subst z
  exact PySem.concat_meets ⟨_, o1, rfl⟩ ⟨_, o2, rfl⟩ PySem.noFill_tuple_add PySem.seq_tuple_add PySem.F.slot_tuple_add PySem.F.entry_tuple_add (PySem.F.args_tuple_add_2 _ _) (PyProof.Rows.tuple_addW0 a b #[] js.toArray n1 n2 d1 d2 l1 l2 rfl) ⟨o1, o2, .ref b, H, I, rfl, q⟩
theorem s_add : S2 (fun x y H Q => (rI0 fun i j => .int (i + j)) x y H Q ∨ rCat x y H Q ∨ rCatZ X.K x y H Q ∨ rCat0 X.K x y H Q) addD := fun F H x y d e rt Q s v w q p => by
  cases d <;> cases e <;> simp only [addD] at q
  case int.int i j =>
    cases (show Rp F x _ from v)
    cases (show Rp F y _ from w)
    cases q
    exact .inl ⟨i, j, rfl, rfl, p _ F H (.inl ⟨rfl, rfl⟩) (.int _)⟩
  case list.list a b =>
    split at q
    · rename_i hl
      cases q
      obtain ⟨l, vs, rfl, h1, h2⟩ := v
      obtain ⟨l', ws, rfl, h3, h4⟩ := w
      exact .inr (.inl ⟨l, l', vs, ws, rfl, rfl, h1, h3, by rw [← lim_eq, h2.length, h4.length]; exact hl, fun a ha => p a _ ha (h2.append h4)⟩)
    · cases q
  case tuple.tuple a b =>
    split at q
    · rename_i hl
      cases q
      cases (show Rp F x _ from v) with
      | tup h1 h2 =>
        cases (show Rp F y _ from w) with
        | tup h3 h4 =>
          cases h2 with
          | nil => exact .inr (.inr (.inr ⟨_, _, _, rfl, rfl, (h1.up s).sq, (h3.up s).sq, p _ F H (.inl ⟨rfl, rfl⟩) (.tup h3 h4)⟩))
          | cons g1 g2 =>
            have h2' := RpA.cons g1 g2
            refine .inr (.inr (.inl ⟨_, _, _, _, rfl, rfl, (h1.up s).sq, (h3.up s).sq, (fun z => by cases z), ?_, fun z => ?_, fun z a' o ha ho => ?_⟩))
            · rw [← lim_eq, h2'.length, h4.length]; exact hl
            · subst z
              cases h4
              rw [List.append_nil] at p
              exact p _ F H (.inl ⟨rfl, rfl⟩) (.tup h1 h2')
            · exact p _ _ _ (.inr ⟨a', o, _, ha, ho, rfl, rfl⟩) (.tup ⟨o, upd_same, ho⟩ ((h2'.append h4).up (same_upd (Same.none s ha))))
    · cases q
  all_goals cases q
theorem s_int {g : Int → Int → V} {gd : D → D → Option Rt} (h : ∀ d e rt, gd d e = some rt → ∃ i j k, d = .int i ∧ e = .int j ∧ rt = .fz k ∧ ∀ F, Rp F (g i j) k) : S2 (rI0 g) gd := fun F H x y d e rt Q s v w q p => by
  obtain ⟨i, j, k, rfl, rfl, rfl, r⟩ := h d e rt q
  cases (show Rp F x _ from v)
  cases (show Rp F y _ from w)
  exact ⟨i, j, rfl, rfl, p _ F H (.inl ⟨rfl, rfl⟩) (r F)⟩
theorem s_intC {Cd : Int → Int → Prop} {g : Int → Int → V} {gd : D → D → Option Rt} (h : ∀ d e rt, gd d e = some rt → ∃ i j k, d = .int i ∧ e = .int j ∧ rt = .fz k ∧ Cd i j ∧ ∀ F, Rp F (g i j) k) : S2 (rI Cd g) gd := fun F H x y d e rt Q s v w q p => by
  obtain ⟨i, j, k, rfl, rfl, rfl, c, r⟩ := h d e rt q
  cases (show Rp F x _ from v)
  cases (show Rp F y _ from w)
  exact ⟨i, j, rfl, rfl, c, p _ F H (.inl ⟨rfl, rfl⟩) (r F)⟩
theorem s_sub : S2 (rI0 fun i j => .int (i - j)) subD := s_int fun d e rt q => by
  cases d <;> cases e <;> simp only [subD] at q <;> cases q
  exact ⟨_, _, _, rfl, rfl, rfl, fun F => .int _⟩
theorem s_lt : S2 (rI0 fun i j => .bl (decide (i < j))) ltD := s_int fun d e rt q => by
  cases d <;> cases e <;> simp only [ltD] at q <;> cases q
  exact ⟨_, _, _, rfl, rfl, rfl, fun F => .bl _⟩
theorem s_le : S2 (rI0 fun i j => .bl (decide (i ≤ j))) leD := s_int fun d e rt q => by
  cases d <;> cases e <;> simp only [leD] at q <;> cases q
  exact ⟨_, _, _, rfl, rfl, rfl, fun F => .bl _⟩
theorem s_gt : S2 (rI0 fun i j => .bl (decide (j < i))) gtD := s_int fun d e rt q => by
  cases d <;> cases e <;> simp only [gtD] at q <;> cases q
  exact ⟨_, _, _, rfl, rfl, rfl, fun F => .bl _⟩
theorem s_ge : S2 (rI0 fun i j => .bl (decide (j ≤ i))) geD := s_int fun d e rt q => by
  cases d <;> cases e <;> simp only [geD] at q <;> cases q
  exact ⟨_, _, _, rfl, rfl, rfl, fun F => .bl _⟩
theorem mB_pow : mB = 2 ^ 700 := by decide
theorem nat_mB {i : Int} (h1 : -mB < i) (h2 : i < mB) : i.natAbs < 2 ^ 700 := by
  have e : ((2 ^ 700 : Nat) : Int) = mB := by decide
  have : ((i.natAbs : Nat) : Int) < ((2 ^ 700 : Nat) : Int) := by rw [e]; omega
  exact Int.ofNat_lt.mp this
theorem s_mul : S2 (fun x y H Q => (rI CMul fun i j => .int (i * j)) x y H Q ∨ (rI CMulW fun i j => .int (i * j)) x y H Q ∨ rRep x y H Q ∨ rRepZ X.K x y H Q) mulD := fun F H x y d e rt Q s v w q p => by
  cases d <;> cases e <;> simp only [mulD] at q <;> try (cases q)
  case int.int i j =>
    split at q
    · rename_i hl
      cases q
      cases (show Rp F x _ from v)
      cases (show Rp F y _ from w)
      rcases hl with hl | hl
      · exact .inr (.inl ⟨i, j, rfl, rfl, wide_mul (nat_mB hl.1.1 hl.1.2) (nat_mB hl.2.1 hl.2.2) (by decide) (by decide) (by decide), p _ F H (.inl ⟨rfl, rfl⟩) (.int _)⟩)
      · exact .inl ⟨i, j, rfl, rfl, hl, p _ F H (.inl ⟨rfl, rfl⟩) (.int _)⟩
    · cases q
  case list.int a j =>
    split at q
    · rename_i hl
      cases q
      obtain ⟨l, vs, rfl, h1, h2⟩ := v
      cases (show Rp F y _ from w)
      have b63 : big < 2 ^ 63 := by decide
      exact .inr (.inr (.inl ⟨l, j, vs, rfl, rfl, h1, by have := hl.2.1; omega, by have := hl.2.2; omega, by rw [← lim_eq, h2.length]; exact hl.1, fun a ha => p a _ ha (h2.rep _)⟩))
    · cases q
  case tuple.int a j =>
    split at q
    · rename_i hl
      cases q
      cases (show Rp F x _ from v) with
      | tup h1 h2 =>
        rename_i l vs
        cases (show Rp F y _ from w)
        refine .inr (.inr (.inr ⟨l, j, vs, rfl, rfl, (h1.up s).sq, hl.2.1, hl.2.2, by rw [h2.length]; exact hl.1, fun c => ?_, fun c1 c2 a' o ha ho => ?_⟩))
        · refine p _ F H (.inl ⟨rfl, rfl⟩) (.tup h1 ?_)
          rcases c with rfl | e
          · have e1 : (List.replicate (1 : Int).toNat a).flatten = a := by show (List.replicate 1 a).flatten = a; simp
            rw [e1]; exact h2
          · subst e
            cases h2
            have e1 : (List.replicate j.toNat ([] : List D)).flatten = [] := by simp
            rw [e1]; exact .nil
        · exact p _ _ _ (.inr ⟨a', o, _, ha, ho, rfl, rfl⟩) (.tup ⟨o, upd_same, ho⟩ ((h2.rep _).up (same_upd (Same.none s ha))))
    · cases q
theorem s_fdiv : S2 (rI CDivN fun i j => .int (i.fdiv j)) fdivD := s_intC fun d e rt q => by
  cases d <;> cases e <;> simp only [fdivD] at q <;> try (cases q)
  rename_i i j
  split at q
  · rename_i h
    cases q
    exact ⟨_, _, _, rfl, rfl, rfl, ⟨h.1, by omega⟩, fun F => .int _⟩
  · cases q
theorem s_mod : S2 (rI (fun _ j => j ≠ 0) fun i j => .int (i.fmod j)) modD := s_intC fun d e rt q => by
  cases d <;> cases e <;> simp only [modD] at q <;> try (cases q)
  rename_i i j
  split at q
  · rename_i h
    cases q
    exact ⟨_, _, _, rfl, rfl, rfl, h, fun F => .int _⟩
  · cases q
theorem s_pow : S2 (rI CPow fun i j => .int (i ^ j.toNat)) powD := s_intC fun d e rt q => by
  cases d <;> cases e <;> simp only [powD] at q <;> try (cases q)
  rename_i i j
  split at q
  · rename_i h
    cases q
    refine ⟨_, _, _, rfl, rfl, rfl, ⟨h.1.1, h.1.2, ?_⟩, fun F => .int _⟩
    have e : (2 : Nat) ^ 64 = 18446744073709551616 := by decide
    rw [e]
    omega
  · cases q
/-! equality -/
theorem shp_lay : ∀ (n : Nat) (d : D), shp n d = true → d.canLay0 = true ∧ d.depth ≤ n
  | n, .none, _ => ⟨rfl, Nat.zero_le _⟩
  | n, .bool _, _ => ⟨rfl, Nat.zero_le _⟩
  | n, .int _, _ => ⟨rfl, Nat.zero_le _⟩
  | n, .str _, h => ⟨by rw [shp_str] at h; exact h, Nat.zero_le _⟩
  | n, .dict _, h => by cases n <;> simp [shp] at h
  | 0, .list _, h => by simp [shp] at h
  | 0, .tuple _, h => by simp [shp] at h
  | n + 1, .list ds, h => by
    have all : ∀ ds : List D, ds.all (shp n) = true → PyData.canLayAll0 ds = true ∧ PyData.depthAll ds ≤ n := fun ds => by
      induction ds with
      | nil => intro _; exact ⟨rfl, Nat.zero_le _⟩
      | cons d ds ih =>
        intro h
        rw [List.all_cons, Bool.and_eq_true] at h
        obtain ⟨a, b⟩ := shp_lay n d h.1
        obtain ⟨a', b'⟩ := ih h.2
        exact ⟨by simp [PyData.canLayAll0, a, a'], by simp only [PyData.depthAll]; omega⟩
    obtain ⟨a, b⟩ := all ds h
    exact ⟨by simp [PyData.canLay0, a], by simp only [PyData.depth]; omega⟩
  | n + 1, .tuple ds, h => by
    have all : ∀ ds : List D, ds.all (shp n) = true → PyData.canLayAll0 ds = true ∧ PyData.depthAll ds ≤ n := fun ds => by
      induction ds with
      | nil => intro _; exact ⟨rfl, Nat.zero_le _⟩
      | cons d ds ih =>
        intro h
        rw [List.all_cons, Bool.and_eq_true] at h
        obtain ⟨a, b⟩ := shp_lay n d h.1
        obtain ⟨a', b'⟩ := ih h.2
        exact ⟨by simp [PyData.canLayAll0, a, a'], by simp only [PyData.depthAll]; omega⟩
    obtain ⟨a, b⟩ := all ds h
    exact ⟨by simp [PyData.canLay0, a], by simp only [PyData.depth]; omega⟩
theorem shp_shaped {d : D} (h : shp (8 + 1 + 1) d = true) : SeqAt.shaped d = true := by
  obtain ⟨a, b⟩ := shp_lay _ _ h
  unfold SeqAt.shaped
  rw [a, decide_eq_true (by omega : d.depth ≤ 64)]
  rfl
mutual
theorem beqD_eqv : ∀ (d e : D), beqD d e = PyData.eqv d e
  | .none, e => by cases e <;> simp [beqD, PyData.eqv]
  | .bool b, e => by cases e <;> simp [beqD, PyData.eqv]
  | .int i, e => by cases e <;> simp [beqD, PyData.eqv, Bool.beq_eq_decide_eq]
  | .str b, e => by cases e <;> simp [beqD, PyData.eqv]
  | .list ds, e => by
    cases e <;> simp [beqD, PyData.eqv]
    exact beqDs_eqv ds _
  | .tuple ds, e => by
    cases e <;> simp [beqD, PyData.eqv]
    exact beqDs_eqv ds _
  | .dict ds, e => by cases e <;> simp [beqD, PyData.eqv]
theorem beqDs_eqv : ∀ (ds es : List D), beqDs ds es = PyData.eqvAll ds es
  | [], es => by cases es <;> simp [beqDs, PyData.eqvAll]
  | d :: ds, es => by
    cases es with
    | nil => simp [beqDs, PyData.eqvAll]
    | cons e es => simp [beqDs, PyData.eqvAll, beqD_eqv d e, beqDs_eqv ds es]
end
theorem s_eq : S2 (rEqD X.K) eqD := fun F H x y d e rt Q s v w q p => by
  simp only [eqD] at q
  split at q
  · rename_i h
    cases q
    refine ⟨d, e, v.dp s, w.dp s, shp_shaped h.1, shp_shaped h.2, ?_⟩
    rw [← beqD_eqv]
    exact p _ F H (.inl ⟨rfl, rfl⟩) (.bl _)
  · cases q
theorem s_ne : S2 (rNeD X.K) neD := fun F H x y d e rt Q s v w q p => by
  simp only [neD] at q
  split at q
  · rename_i h
    cases q
    refine ⟨d, e, v.dp s, w.dp s, shp_shaped h.1, shp_shaped h.2, ?_⟩
    rw [← beqD_eqv]
    exact p _ F H (.inl ⟨rfl, rfl⟩) (.bl _)
  · cases q
/-! is None -/
theorem VwD.non {F H : Hp} {v : V} {d : D} (h : VwD F H v d) : decide (v = .non) = (match d with | .none => true | _ => false) := by
  cases d with
  | list ds => obtain ⟨a, vs, rfl, _⟩ := h; rfl
  | none => cases (show Rp F v _ from h); rfl
  | bool _ => cases (show Rp F v _ from h); rfl
  | int _ => cases (show Rp F v _ from h); rfl
  | str _ => cases (show Rp F v _ from h); rfl
  | tuple _ => cases (show Rp F v _ from h); rfl
  | dict _ => cases (show Rp F v _ from h)
theorem s_isN : S2 (fun x y H Q => y = .non ∧ Q (.bl (decide (x = .non))) H) isD2 := fun F H x y d e rt Q s v w q p => by
  unfold isD2 at q
  split at q
  · simp only [isND] at q
    cases q
    cases (show Rp F y _ from w)
    refine ⟨rfl, ?_⟩
    rw [v.non]
    refine p _ F H (.inl ⟨rfl, rfl⟩) ?_
    cases d <;> exact .bl _
  · cases q
theorem s_notN : S2 (fun x y H Q => y = .non ∧ Q (.bl (!decide (x = .non))) H) notD2 := fun F H x y d e rt Q s v w q p => by
  unfold notD2 at q
  split at q
  · simp only [notND] at q
    cases q
    cases (show Rp F y _ from w)
    refine ⟨rfl, ?_⟩
    rw [v.non]
    refine p _ F H (.inl ⟨rfl, rfl⟩) ?_
    cases d <;> exact .bl _
  · cases q
/-! unary, built-ins of one argument -/
theorem s_neg : SU (rU fun i => .int (-i)) negD := fun F H x d rt Q s v q p => by
  cases d <;> simp only [negD] at q <;> cases q
  cases (show Rp F x _ from v)
  exact ⟨_, rfl, p _ F H (.inl ⟨rfl, rfl⟩) (.int _)⟩
theorem s_abs : S1 (fun xs H Q => ∃ i, xs = [V.int i] ∧ Q (.int (if i < 0 then -i else i)) H) absD := fun F H x d rt Q s v q p => by
  cases d <;> simp only [absD] at q <;> cases q
  cases (show Rp F x _ from v)
  exact ⟨_, rfl, p _ F H (.inl ⟨rfl, rfl⟩) (.int _)⟩
theorem s_len : S1 (fun xs H Q => ∃ p ys, xs = [V.ref p] ∧ (SqL X.K H p ys ∨ SqT X.K H p ys) ∧ Q (.int ys.length) H) lenD := fun F H x d rt Q s v q p => by
  cases d <;> simp only [lenD] at q <;> cases q
  · obtain ⟨l, vs, rfl, h1, h2⟩ := v
    refine ⟨l, vs, rfl, .inl (SqL.of h1), ?_⟩
    rw [h2.length]
    exact p _ F H (.inl ⟨rfl, rfl⟩) (.int _)
  · cases (show Rp F x _ from v) with
    | tup h1 h2 =>
      refine ⟨_, _, rfl, .inr ((h1.up s).sq), ?_⟩
      rw [h2.length]
      exact p _ F H (.inl ⟨rfl, rfl⟩) (.int _)
theorem s_intc : S1 (fun xs H Q => (∃ i, xs = [V.int i] ∧ Q (.int i) H) ∨ ∃ k, xs = [V.bl k] ∧ Q (.int (if k then 1 else 0)) H) intD := fun F H x d rt Q s v q p => by
  cases d <;> simp only [intD] at q <;> cases q
  · cases (show Rp F x _ from v)
    exact .inr ⟨_, rfl, p _ F H (.inl ⟨rfl, rfl⟩) (.int _)⟩
  · cases (show Rp F x _ from v)
    exact .inl ⟨_, rfl, p _ F H (.inl ⟨rfl, rfl⟩) (.int _)⟩
theorem s_list : S1 (fun xs H Q => ∃ p ys, xs = [V.ref p] ∧ (SqL X.K H p ys ∨ SqT X.K H p ys) ∧ ∀ l, H l = none → Q (.ref l) (upd H l (.lst ys))) listD := fun F H x d rt Q s v q p => by
  cases d <;> simp only [listD] at q <;> cases q
  · obtain ⟨l, vs, rfl, h1, h2⟩ := v
    exact ⟨l, vs, rfl, .inl (SqL.of h1), fun a ha => p a _ ha h2⟩
  · cases (show Rp F x _ from v) with
    | tup h1 h2 => exact ⟨_, _, rfl, .inr ((h1.up s).sq), fun a ha => p a _ ha h2⟩
theorem s_tuple : S1 (fun xs H Q => ∃ p ys, xs = [V.ref p] ∧ ((SqL X.K H p ys ∧ ∀ l o, H l = none → o.dict = none → Q (.ref l) (upd H l (.frz o (.tup ys)))) ∨ (SqT X.K H p ys ∧ Q (.ref p) H))) tupleD := fun F H x d rt Q s v q p => by
  cases d <;> simp only [tupleD] at q <;> cases q
  · obtain ⟨l, vs, rfl, h1, h2⟩ := v
    exact ⟨l, vs, rfl, .inl ⟨SqL.of h1, fun a o ha ho => p _ _ _ (.inr ⟨a, o, vs, ha, ho, rfl, rfl⟩) (.tup ⟨o, upd_same, ho⟩ (h2.up (same_upd (Same.none s ha))))⟩⟩
  · cases (show Rp F x _ from v) with
    | tup h1 h2 => exact ⟨_, _, rfl, .inr ⟨(h1.up s).sq, p _ F H (.inl ⟨rfl, rfl⟩) (.tup h1 h2)⟩⟩
theorem asInt_of : ∀ {ds : List D} {ns : List Int}, asInts ds = some ns → ds = ns.map PyData.int
  | [], ns, h => by simp only [asInts] at h; cases h; rfl
  | d :: ds, ns, h => by
    cases d <;> simp only [asInts] at h <;> try (cases h)
    cases q : asInts ds with
    | none => rw [q] at h; cases h
    | some m => rw [q] at h; cases h; rw [asInt_of q]; rfl
theorem asBool_of : ∀ {ds : List D} {ns : List Bool}, asBools ds = some ns → ds = ns.map PyData.bool
  | [], ns, h => by simp only [asBools] at h; cases h; rfl
  | d :: ds, ns, h => by
    cases d <;> simp only [asBools] at h <;> try (cases h)
    cases q : asBools ds with
    | none => rw [q] at h; cases h
    | some m => rw [q] at h; cases h; rw [asBool_of q]; rfl
theorem s_sum : S1 (rSum X.K) sumD := fun F H x d rt Q s v q p => by
  cases d <;> simp only [sumD] at q <;> try (cases q)
  split at q
  · rename_i ns h
    cases q
    have e := asInt_of h
    subst e
    obtain ⟨l, vs, rfl, h1, h2⟩ := v
    have e := h2.ints
    subst e
    exact ⟨l, ns, rfl, SqL.of h1, p _ F H (.inl ⟨rfl, rfl⟩) (.int _)⟩
  · cases q
theorem s_all : S1 (rAll X.K) allD := fun F H x d rt Q s v q p => by
  cases d <;> simp only [allD] at q <;> try (cases q)
  split at q
  · rename_i ns h
    cases q
    have e := asBool_of h
    subst e
    obtain ⟨l, vs, rfl, h1, h2⟩ := v
    have e := h2.bools
    subst e
    exact ⟨l, ns, rfl, SqL.of h1, p _ F H (.inl ⟨rfl, rfl⟩) (.bl _)⟩
  · cases q
theorem s_any : S1 (rAny X.K) anyD := fun F H x d rt Q s v q p => by
  cases d <;> simp only [anyD] at q <;> try (cases q)
  split at q
  · rename_i ns h
    cases q
    have e := asBool_of h
    subst e
    obtain ⟨l, vs, rfl, h1, h2⟩ := v
    have e := h2.bools
    subst e
    exact ⟨l, ns, rfl, SqL.of h1, p _ F H (.inl ⟨rfl, rfl⟩) (.bl _)⟩
  · cases q
theorem s_max : S12 (fun xs H Q => ∃ i j, xs = [V.int i, V.int j] ∧ Q (.int (if j > i then j else i)) H) maxD := fun F H x y d e rt Q s v w q p => by
  cases d <;> cases e <;> simp only [maxD] at q <;> cases q
  cases (show Rp F x _ from v)
  cases (show Rp F y _ from w)
  exact ⟨_, _, rfl, p _ F H (.inl ⟨rfl, rfl⟩) (.int _)⟩
theorem s_min : S12 (fun xs H Q => ∃ i j, xs = [V.int i, V.int j] ∧ Q (.int (if j < i then j else i)) H) minD := fun F H x y d e rt Q s v w q p => by
  cases d <;> cases e <;> simp only [minD] at q <;> cases q
  cases (show Rp F x _ from v)
  cases (show Rp F y _ from w)
  exact ⟨_, _, rfl, p _ F H (.inl ⟨rfl, rfl⟩) (.int _)⟩
/-! isinstance -/
def tyN : Ty → String
  | .int => "int" | .bool => "bool" | .list => "list" | .tuple => "tuple" | .str => "str"
def tyOf : D → String
  | .none => "NoneType" | .bool _ => "bool" | .int _ => "int" | .str _ => "str" | .list _ => "list" | .tuple _ => "tuple" | .dict _ => "dict"
theorem k_NoneType_int : kitB "NoneType" "int" = some false := by decide +kernel
theorem k_bool_int : kitB "bool" "int" = some true := by decide +kernel
theorem k_int_int : kitB "int" "int" = some true := by decide +kernel
theorem k_str_int : kitB "str" "int" = some false := by decide +kernel
theorem k_list_int : kitB "list" "int" = some false := by decide +kernel
theorem k_tuple_int : kitB "tuple" "int" = some false := by decide +kernel
theorem k_NoneType_bool : kitB "NoneType" "bool" = some false := by decide +kernel
theorem k_bool_bool : kitB "bool" "bool" = some true := by decide +kernel
theorem k_int_bool : kitB "int" "bool" = some false := by decide +kernel
theorem k_str_bool : kitB "str" "bool" = some false := by decide +kernel
theorem k_list_bool : kitB "list" "bool" = some false := by decide +kernel
theorem k_tuple_bool : kitB "tuple" "bool" = some false := by decide +kernel
theorem k_NoneType_list : kitB "NoneType" "list" = some false := by decide +kernel
theorem k_bool_list : kitB "bool" "list" = some false := by decide +kernel
theorem k_int_list : kitB "int" "list" = some false := by decide +kernel
theorem k_str_list : kitB "str" "list" = some false := by decide +kernel
theorem k_list_list : kitB "list" "list" = some true := by decide +kernel
theorem k_tuple_list : kitB "tuple" "list" = some false := by decide +kernel
theorem k_NoneType_tuple : kitB "NoneType" "tuple" = some false := by decide +kernel
theorem k_bool_tuple : kitB "bool" "tuple" = some false := by decide +kernel
theorem k_int_tuple : kitB "int" "tuple" = some false := by decide +kernel
theorem k_str_tuple : kitB "str" "tuple" = some false := by decide +kernel
theorem k_list_tuple : kitB "list" "tuple" = some false := by decide +kernel
theorem k_tuple_tuple : kitB "tuple" "tuple" = some true := by decide +kernel
theorem k_NoneType_str : kitB "NoneType" "str" = some false := by decide +kernel
theorem k_bool_str : kitB "bool" "str" = some false := by decide +kernel
theorem k_int_str : kitB "int" "str" = some false := by decide +kernel
theorem k_str_str : kitB "str" "str" = some true := by decide +kernel
theorem k_list_str : kitB "list" "str" = some false := by decide +kernel
theorem k_tuple_str : kitB "tuple" "str" = some false := by decide +kernel
theorem isi_kit (T : Ty) (d : D) (rt : Rt) (h : isiD T d = some rt) : ∃ b, rt = .fz (.bool b) ∧ kitB (tyOf d) (tyN T) = some b := by
  cases T <;> cases d <;> simp only [isiD] at h <;> cases h <;> first
    | exact ⟨_, rfl, k_NoneType_int⟩
    | exact ⟨_, rfl, k_bool_int⟩
    | exact ⟨_, rfl, k_int_int⟩
    | exact ⟨_, rfl, k_str_int⟩
    | exact ⟨_, rfl, k_list_int⟩
    | exact ⟨_, rfl, k_tuple_int⟩
    | exact ⟨_, rfl, k_NoneType_bool⟩
    | exact ⟨_, rfl, k_bool_bool⟩
    | exact ⟨_, rfl, k_int_bool⟩
    | exact ⟨_, rfl, k_str_bool⟩
    | exact ⟨_, rfl, k_list_bool⟩
    | exact ⟨_, rfl, k_tuple_bool⟩
    | exact ⟨_, rfl, k_NoneType_list⟩
    | exact ⟨_, rfl, k_bool_list⟩
    | exact ⟨_, rfl, k_int_list⟩
    | exact ⟨_, rfl, k_str_list⟩
    | exact ⟨_, rfl, k_list_list⟩
    | exact ⟨_, rfl, k_tuple_list⟩
    | exact ⟨_, rfl, k_NoneType_tuple⟩
    | exact ⟨_, rfl, k_bool_tuple⟩
    | exact ⟨_, rfl, k_int_tuple⟩
    | exact ⟨_, rfl, k_str_tuple⟩
    | exact ⟨_, rfl, k_list_tuple⟩
    | exact ⟨_, rfl, k_tuple_tuple⟩
    | exact ⟨_, rfl, k_NoneType_str⟩
    | exact ⟨_, rfl, k_bool_str⟩
    | exact ⟨_, rfl, k_int_str⟩
    | exact ⟨_, rfl, k_str_str⟩
    | exact ⟨_, rfl, k_list_str⟩
    | exact ⟨_, rfl, k_tuple_str⟩
theorem tyX_of {K : Fr} {F H : Hp} {v : V} {d : D} (s : Same F H) (h : VwD F H v d) : TyX K H v (.type (tyOf d)) := by
  cases d with
  | list ds => obtain ⟨a, vs, rfl, h1, _⟩ := h; exact .base (.lst h1)
  | none => cases (show Rp F v _ from h); exact .base .non
  | bool _ => cases (show Rp F v _ from h); exact .base (.bl _)
  | int _ => cases (show Rp F v _ from h); exact .base (.int _)
  | str _ => cases (show Rp F v _ from h); exact .base (.str _)
  | tuple _ =>
    cases (show Rp F v _ from h) with
    | tup h1 _ =>
      obtain ⟨_, z, _⟩ := h1.up s
      exact .fTuple z
  | dict _ => cases (show Rp F v _ from h)
theorem s_isi (T : Ty) : S1 (fun xs H Q => rIsi X.K (xs ++ [.ty (tyN T)]) H Q) (isiD T) := fun F H x d rt Q s v q p => by
  obtain ⟨b, rfl, hk⟩ := isi_kit T d rt q
  exact ⟨x, .ty (tyN T), .type (tyOf d), .type (tyN T), b, rfl, .ty _, tyX_of s v, kit_ty hk, p _ F H (.inl ⟨rfl, rfl⟩) (.bl _)⟩
/-! items, slices -/
theorem s_ix : S2 (rIx X.K) ixD := fun F H x y d e rt Q s v w q p => by
  cases d <;> cases e <;> simp only [ixD] at q <;> try (cases q)
  case list.int ds i =>
    split at q
    · rename_i j hj
      split at q
      · rename_i d' hd
        cases q
        obtain ⟨l, vs, rfl, h1, h2⟩ := v
        cases (show Rp F y _ from w)
        obtain ⟨u, h3, h4⟩ := h2.getd hd
        refine .inl ⟨l, vs, i, u, rfl, rfl, SqL.of h1, ?_, p _ F H (.inl ⟨rfl, rfl⟩) h4⟩
        have e1 : L2.ixN vs.length i = some j := by rw [h2.length]; exact hj
        show (L2.ixN vs.length i).bind (fun j => vs[j]?) = some u
        rw [e1]; exact h3
      · cases q
    · cases q
  case tuple.int ds i =>
    split at q
    · rename_i j hj
      split at q
      · rename_i d' hd
        cases q
        cases (show Rp F y _ from w)
        cases (show Rp F x _ from v) with
        | tup h1 h2 =>
          obtain ⟨u, h3, h4⟩ := h2.getd hd
          refine .inr (.inl ⟨_, _, i, u, rfl, rfl, (h1.up s).sq, ?_, p _ F H (.inl ⟨rfl, rfl⟩) h4⟩)
          rename_i l vs
          have e1 : L2.ixN vs.length i = some j := by rw [h2.length]; exact hj
          show (L2.ixN vs.length i).bind (fun j => vs[j]?) = some u
          rw [e1]; exact h3
      · cases q
    · cases q
theorem sIx_same (n d : Nat) (o : Option Int) : HT.sIx n d o = sIx n d o := by
  cases o <;> rfl
theorem cut_rp {F : Hp} {vs : List V} {ds : List D} (h : RpA F vs ds) (lo hi : Option Int) : RpA F (cutV vs lo hi) (cutD ds lo hi) := by
  unfold cutV cutD
  rw [sIx_same, sIx_same, h.length]
  exact (h.drop _).take _
theorem cut_all {ds : List D} {lo hi : Option Int} (h : sIx ds.length 0 lo = 0 ∧ sIx ds.length ds.length hi = ds.length) : cutD ds lo hi = ds := by
  unfold cutD
  rw [h.1, h.2, List.drop_zero, Nat.sub_zero, List.take_length]
theorem s_sl : SS (fun x lo hi H Q => rSlL X.K x lo hi H Q ∨ rSlZ X.K x lo hi H Q ∨ rSlW X.K x lo hi H Q) slD := fun F H x lo hi d rt Q s v q p => by
  cases d <;> simp only [slD] at q <;> try (cases q)
  · obtain ⟨l, vs, rfl, h1, h2⟩ := v
    exact .inl ⟨l, vs, rfl, SqL.of h1, fun a ha => p a _ ha (cut_rp h2 lo hi)⟩
  · rename_i ds
    cases (show Rp F x _ from v) with
    | tup h1 h2 =>
      by_cases hw : sIx ds.length 0 lo = 0 ∧ sIx ds.length ds.length hi = ds.length
      · refine .inr (.inr ⟨_, _, rfl, (h1.up s).sq, ?_, ?_⟩)
        · rw [sIx_same, sIx_same, h2.length]
          exact hw
        · rw [cut_all hw] at p
          exact p _ F H (.inl ⟨rfl, rfl⟩) (.tup h1 h2)
      · refine .inr (.inl ⟨_, _, rfl, (h1.up s).sq, ?_, fun a o ha ho => p _ _ _ (.inr ⟨a, o, _, ha, ho, rfl, rfl⟩) (.tup ⟨o, upd_same, ho⟩ ((cut_rp h2 lo hi).up (same_upd (Same.none s ha))))⟩)
        rw [sIx_same, sIx_same, h2.length]
        exact hw
/-- x.extend(a list) -/
theorem s_ext {F H : Hp} {l : Addr} {y : V} {vs : List V} {ds : List D} {d : D} {es : List D} {Q : VK} (s : Same F H) (h : VwD F H y d) (hq : ∃ es', d = .list es') (he : seqD d = some es) (hl : H l = some (.lst vs)) (hv : vs.length = ds.length) (hz : ds.length + es.length ≤ limit)
    (q : ∀ ws, RpA F ws es → Q .non (upd H l (.lst (vs ++ ws)))) : rExtend (.ref l) [y] H Q := by
  obtain ⟨es', rfl⟩ := hq
  cases he
  obtain ⟨a, ws, rfl, h1, h2⟩ := h
  exact ⟨l, a, vs, ws, rfl, rfl, hl, h1, by rw [← lim_eq, hv, h2.length]; exact hz, q ws h2⟩
/-! the script -/
theorem ScR.sq {K : Fr} {C : FC} {F : Hp} {env : Env} {σ : St} {H : Hp} (h : Hd K C F env σ H) {a : Addr} {xs : List V} (r : ScR K C.H0 C.Mu a xs) : SqL K H a xs := by
  rcases r with ⟨r, n⟩ | r
  · rcases r with z | ⟨o, z⟩
    · exact .inl (.inl (h.keep _ _ z n))
    · exact .inl (.inr ⟨o, h.keep _ _ z n⟩)
  · exact .inr r
variable {C : FC} {ce : Expr} {f : M RV}
theorem je_scLen {i : Nat} {r : List V → Hp → VK → Prop} (hr : ∀ p ys H Q, SqL X.K H p ys → Q (.int ys.length) H → r [V.ref p] H Q) (h : PE X ce (tCB r (tCons (tVar i) tNil))) : JE X C ce (eScLen i) := by
  refine pe_weak h fun σ H Q ⟨F, env, rv, env', hd, he, q⟩ => ?_
  simp only [eScLen] at he
  split at he
  · rename_i ds h1
    cases he
    obtain ⟨a, ns, p1, p2, p3⟩ := hd.sc i ds h1
    refine ⟨_, p1, hr a _ H Q (p3.sq hd) ?_⟩
    have e : (List.map PyData.int ns).length = (List.map V.int ns).length := by simp
    have q' := q F H (.int ((ds.length : Nat) : Int)) Stp.refl hd (.int _)
    rw [p2, e] at q'
    exact q'
  · cases he
theorem je_scIx {i : Nat} {b : Expr} {a : Expr} {pos : Pos} (h : PE X (.Subscript a b pos) (tOp (rIx X.K) (tVar i) (tJ X.K C f))) : JE X C (.Subscript a b pos) (eScIx i f) := by
  refine pe_weak h fun σ H Q ⟨F, env, rv, env', hd, he, q⟩ => ?_
  simp only [eScIx] at he
  split at he
  · rename_i ds0 h0
    split at he
    · rename_i k e1 h1
      split at he
      · rename_i ds h2
        split at he
        · rename_i j h3
          split at he
          · rename_i d h4
            cases he
            obtain ⟨a, ns0, p1, _⟩ := hd.sc i ds0 h0
            refine ⟨_, p1, tJ.go hd h1 fun F1 H1 v s1 g1 r1 => ?_⟩
            have r1' : Rp F1 v (.int k) := r1
            cases r1'
            obtain ⟨b, ns, q1, q2, q3⟩ := g1.sc i ds h2
            rw [p1] at q1; cases q1
            subst q2
            rw [List.length_map] at h3
            rw [List.getElem?_map] at h4
            cases e : ns[j]? with
            | none => rw [e] at h4; cases h4
            | some n =>
              rw [e] at h4
              cases h4
              refine .inl ⟨_, _, k, .int n, rfl, rfl, q3.sq g1, ?_, q F1 H1 _ s1 g1 (.int n)⟩
              have e1 : L2.ixN (ns.map V.int).length k = some j := by rw [List.length_map]; exact h3
              show (L2.ixN (ns.map V.int).length k).bind (fun j => (ns.map V.int)[j]?) = some (V.int n)
              rw [e1]
              show (ns.map V.int)[j]? = some (V.int n)
              rw [List.getElem?_map, e]; rfl
          · cases he
        · cases he
      · cases he
    · cases he
  · cases he
theorem je_scSl {i : Nat} {gl gh : M (Option Int)} (h : PE X ce (tSl (rSlL X.K) (tVar i) (toJ X.K C gl) (toJ X.K C gh))) : JE X C ce (eScSl i gl gh) := by
  refine pe_weak h fun σ H Q ⟨F, env, rv, env', hd, he, q⟩ => ?_
  simp only [eScSl] at he
  split at he
  · rename_i ds0 h0
    split at he
    · cases he
    rename_i l e1 h1
    split at he
    · cases he
    rename_i hh e2 h2
    split at he
    · rename_i ds h3
      cases he
      obtain ⟨a, ns0, p1, _⟩ := hd.sc i ds0 h0
      refine ⟨_, p1, F, env, l, e1, hd, h1, fun F1 H1 s1 g1 => ⟨F1, e1, hh, env', g1, h2, fun F2 H2 s2 g2 => ?_⟩⟩
      obtain ⟨b, ns, q1, q2, q3⟩ := g2.sc i ds h3
      rw [p1] at q1; cases q1
      subst q2
      have s12 := s1.trans s2
      exact ⟨_, _, rfl, q3.sq g2, fun p hp => q F2 _ _ (s12.trans (Stp.new g2 hp)) (g2.new hp) (g2.tmNew s12 hp (cut_rp (RpA.ofInts ns) l hh))⟩
    · cases he
  · cases he
end
end J
namespace J
open PySem L2 PySem.Spec PyProof.Rows
/-! ### enumerate over a tuple -/
theorem en_new {v : Value} {o : Obj} {G : Heap → Prop} (B : Begins v o G) :
    Meets (Builtin.«enumerate.__new__» ⟨[.type "enumerate", v], []⟩) (fun _ R s => G s.heap ∧
      R (.ok (.ret (.ref (s.heap.push o).objs.size))) { s with heap := (s.heap.push o).push { cls := .type "enumerate", data := .fields #[.none, .bool false, .ref s.heap.objs.size, rawInt 0, .none, .none] } }) :=
  .of_wp fun prog w A R s h => by
    obtain ⟨h0, g0, d0, t0, o0⟩ := s
    obtain ⟨hG, h⟩ := h
    have hsub := sub_enumerate
    have step : ∀ {A' : Around} {E Q : Value → Shared → Prop}, Q (.ref h0.objs.size) ⟨h0.push o, g0, d0, t0, o0⟩ → wpAny (model prog w) A' (pyIter v) Q E ⟨h0, g0, d0, t0, o0⟩ :=
      fun q => B.iter prog w _ _ ⟨h0, g0, d0, t0, o0⟩ _ hG q
    wp_walk using step
    refine wpAny_stack_any fun st => wpAny_pure ?_
    split
    · rename_i c _ _ _ _ _
      cases (c == Value.type "enumerate")
      all_goals
        wp_walk using step
        exact ⟨_, rfl, h⟩
    · wp_walk using step
      exact ⟨_, rfl, h⟩
theorem en_call {prog : Program} {w : World} {A : Around} {E Q : Value → Shared → Prop} {s : Shared} {v : Value} {o : Obj} {G : Heap → Prop} (B : Begins v o G) (hG : G s.heap)
    (q : ∀ h', IsEnum h' (s.heap.objs.size + 1) s.heap.objs.size 0 .none → h'.get? s.heap.objs.size = some o → (∀ b u, s.heap.get? b = some u → h'.get? b = some u) → Q (.ref (s.heap.objs.size + 1)) { s with heap := h' }) :
    wpAny (model prog w) A (call (.type "enumerate") [v]) Q E s := by
  refine callType_new F.called_enumerate (by decide) (F.typeCall_enumerate_1 _) (F.newCall_enumerate_1 _) (fun obj => F.args_object_init_2 obj _) F.entry_enumerate_new (en_new B) ⟨hG, ?_⟩
  have sz : (s.heap.push o).objs.size = s.heap.objs.size + 1 := Heap.size_push ..
  show _ ∧ _
  rw [sz]
  have h2 : IsEnum ((s.heap.push o).push { cls := .type "enumerate", data := .fields #[.none, .bool false, .ref s.heap.objs.size, rawInt 0, .none, .none] }) (s.heap.objs.size + 1) s.heap.objs.size 0 .none := by
    have z := Heap.get?_push_size (s.heap.push o) (o := { cls := .type "enumerate", data := .fields #[.none, .bool false, .ref s.heap.objs.size, rawInt 0, .none, .none] }) rfl
    rw [sz] at z
    exact z
  exact ⟨⟨_, h2, rfl⟩, q _ h2 (Heap.get?_push_of_some _ (Heap.get?_push_size _ B.free)) fun b u x => Heap.get?_push_of_some _ (Heap.get?_push_of_some _ x)⟩
def Iyt (K : Fr) (a : Addr) : L2.It where
  go := fun i H => ∃ xs x, SqT K H a xs ∧ xs[i]? = some x
  yld := fun i H v H' => ∃ (T : Addr) (o : Obj) (x : V), v = V.ref T ∧ H T = none ∧ o.dict = none ∧ H' = upd H T (.frz o (.tup [.int (i : Nat), x])) ∧ ∀ xs, SqT K H a xs → xs[i]? = some x
  stop := fun i H => ∃ xs : List V, SqT K H a xs ∧ xs.length ≤ i
theorem tup_apart {h : Heap} {a it : Addr} {i : Nat} {its : Array Value} (h1 : h.IsTuple a its) (h2 : h.IsTupleIter it a i) : a ≠ it := by
  rintro rfl
  obtain ⟨o, e, c, _⟩ := h1
  obtain ⟨o', e', c', _⟩ := h2
  rw [e] at e'
  cases e'
  rw [c] at c'
  exact absurd c' (by decide)
theorem enum_apart {h : Heap} {a e it : Addr} {i : Int} {old : Value} {its : Array Value} (h1 : h.IsTuple a its) (h2 : IsEnum h e it i old) : e ≠ a := by
  rintro rfl
  obtain ⟨o, e, c, _⟩ := h1
  have z : h.get? _ = some _ := h2
  rw [e] at z
  have z2 := congrArg Obj.cls (Option.some.inj z)
  rw [c] at z2
  exact absurd z2 (by show ¬ (Value.type "tuple" = Value.type "enumerate"); decide)
theorem turn_enT {P : Program} {w : World} {K : Fr} {elts : List Expr} {kk : Nat} {tpos : Pos} (a e it : Addr) :
    Turn P w K (.Tuple elts kk tpos) (Iyt K a) [e, it] e (fun i h => (∃ old, IsEnum h e it ((i : Nat) : Int) old) ∧ h.IsTupleIter it a i ∧ e ≠ it) where
  mem := by simp
  obj := fun i h st b hb => by
    obtain ⟨⟨old, h1⟩, ⟨o, h2, _, h3⟩, _⟩ := st
    rcases List.mem_cons.mp hb with rfl | hb
    · exact ⟨_, h1, fun v q => nomatch q⟩
    · rw [List.mem_singleton.mp hb]
      exact ⟨o, h2, fun v q => by rw [h3] at q; cases q⟩
  keep := fun i h h' ⟨⟨old, h1⟩, h2, n⟩ k => ⟨⟨old, k e (by simp) _ h1⟩, h2.at fun o q => k it (by simp) o q, n⟩
  item := by
    intro X hP hw hK hc i pins s σ H E I hf st hg
    subst hP hw hK
    obtain ⟨⟨old, h1⟩, h2, n⟩ := st
    obtain ⟨xs, x, hq, hx⟩ := hg
    obtain ⟨its, rv, p, _⟩ := I.tuple hq
    obtain ⟨u, hu, ru⟩ := rv.get hx
    have ht : s.heap.IsTuple a its.toArray := p
    have le : e < s.heap.objs.size := Heap.lt_size h1
    have li : it < s.heap.objs.size := by obtain ⟨_, q, _⟩ := h2; exact Heap.lt_size q
    have Dr := Draws.tuple (prog := X.prog) (w := X.w) (A := X.A.in1) (I.ok.hd hc) it a (tup_apart ht h2) its.toArray
    have hi : i < its.length := (List.getElem?_eq_some_iff.mp hu).1
    refine wpAny_pyNext_enum_itemD Dr h1 ⟨h2, ht⟩ (by simpa using hi) n (by simp only [List.mem_cons, List.not_mem_nil, or_false, not_or]; exact ⟨n, enum_apart ht h1⟩) fun y h' tk hy ho hst hT hsz hk => ?_
    have ey : y = u := by
      have z : its.toArray[i]? = some y := hy
      rw [List.getElem?_toArray, hu] at z
      exact (Option.some.inj z).symm
    subst ey
    refine ⟨_, rfl, wpAny_letOwnedTupleGo_enum (s := { s with heap := h', toks := tk + 1 }) ho fun h'' he' sb => ?_⟩
    have hT2 : h''.get? s.heap.objs.size = some { cls := .type "tuple", data := .seq #[.int i tk, y] } := (sb.2 _ (Nat.ne_of_gt le)).trans hT
    have I1 : Inv X pins σ (upd H s.heap.objs.size (.frz { cls := .type "tuple", data := .seq #[.int (i : Nat) tk, y] } (.tup [.int (i : Nat), x]))) { s with heap := h'', toks := tk + 1 } := by
      refine I.turnedNew (ch := [e, it]) (fun b ob hb q => ?_) hf (Nat.le_refl _) (pairZ (i := (i : Nat)) ru hT2)
      have ne : b ≠ e := fun z => hb (by simp [z])
      have ni : b ≠ it := fun z => hb (by simp [z])
      exact (sb.2 b ne).trans (hk b ob ne ni q)
    refine ⟨.ref s.heap.objs.size, _, I1, rfl, ⟨_, _, x, rfl, I.hok.fresh (Nat.le_refl _), rfl, rfl, fun ys hy => by rw [I.tuple_inj hy hq]; exact hx⟩, ⟨⟨y, ?_⟩, hst.1.at fun o q => (sb.2 it (Ne.symm n)).trans q, n⟩, fun b hb => ?_⟩
    · rw [Int.natCast_succ]
      exact he'
    · have lb : b < s.heap.objs.size := by
        rcases List.mem_cons.mp hb with rfl | hb
        · exact le
        · rw [List.mem_singleton.mp hb]; exact li
      rw [upd_ne (Nat.ne_of_lt lb)]
      exact (hf b hb).1
  done := by
    intro X hP hw hK hc i pins s σ H E I hf st hg
    subst hP hw hK
    obtain ⟨⟨old, h1⟩, h2, n⟩ := st
    obtain ⟨xs, hq, hx⟩ := hg
    obtain ⟨its, rv, p, _⟩ := I.tuple hq
    have ht : s.heap.IsTuple a its.toArray := p
    obtain ⟨f0, f1, f2, f3, f4, f5⟩ := hf it (by simp)
    have hl := rv.length
    have hle : its.toArray[i]? = none := by
      rw [List.getElem?_toArray, List.getElem?_eq_none (by omega)]
    have Dr : Draws X.prog X.w X.A.in1 it [it, a] i (fun _ _ => True) (fun j h => (h.IsTupleIter it a j ∧ h.IsTuple a its.toArray) ∧ i ≤ j) :=
      ⟨fun j h q => let ⟨o, ho, _⟩ := q.1.1; ⟨o, ho⟩, fun j h h' q k => ⟨⟨q.1.1.at fun o z => k it (by simp) o z, q.1.2.at fun o z => k a (by simp) o z⟩, q.2⟩,
        fun j s Q E hj q _ => absurd hj (Nat.not_lt.mpr q.2), fun s Q E q k => wpAny_nextOf_tuple_end (I.ok.hd hc) q.1.1 q.1.2 hle k⟩
    exact wpAny_pyNext_enum_endD Dr h1 ⟨⟨h2, ht⟩, Nat.le_refl _⟩ fun h' eb => ⟨rfl, I.turned (t' := s.toks) (fun b o hb q => eb b o hb q) f0 f1 f3 f4 f5⟩
  self := fun A i s Q E st h => by
    obtain ⟨⟨_, h1⟩, _⟩ := st
    exact wpAny_pyIter_enum h1 h
theorem pi_enT {X : Cx} {e : Expr} {ta : TA} {p pos tpos : Pos} {elts : List Expr} {kk : Nat} (hg : Gl X "enumerate") (hm : X.mg "enumerate" = none) (ha : PA X [e] ta) (hs : starEach [e] X.env = [(false, eval e X.env)] := by rfl) :
    PI X (.Tuple elts kk tpos) (.Call (.Name "enumerate" p) [e] [] pos) (iEnT X.K (Iyt X.K) ta) := by
  refine ⟨fun pins s σ H R I h => Call_ (ld_blt I hg hm boot_enumerate (PyProof.Rows.callWith_type1 (thn (ha.run pos pins s σ H _ I h) fun us s1 ⟨vs, H1, I1, r1, a, xs, ex, hq, q⟩ => ?_) hs rfl))⟩
  subst ex
  cases r1 with
  | cons r rr =>
    cases rr
    cases r
    obtain ⟨its, rv, p', _⟩ := I1.tuple hq
    refine en_call (begins_tuple a its.toArray) p' fun h' he hit hk => wpAny_pyIter_enum he ?_
    have I2 : Inv X pins σ H1 { s1 with heap := h' } := I1.kept (t' := s1.toks) hk
    refine ⟨s1.heap.objs.size + 1, [s1.heap.objs.size + 1, s1.heap.objs.size], _, _, H1, rfl, I2, turn_enT a (s1.heap.objs.size + 1) s1.heap.objs.size, ⟨⟨.none, he⟩, ⟨_, hit, rfl, rfl⟩, Nat.succ_ne_self _⟩, fun b hb => ?_, q⟩
    have le : s1.heap.objs.size ≤ b := by
      rcases List.mem_cons.mp hb with rfl | hb
      · exact Nat.le_add_right _ _
      · rw [List.mem_singleton.mp hb]; exact Nat.le_refl _
    exact I1.fpOk le (I1.hok.fresh le)
theorem wk_enT {K : Fr} {C : FC} {F0 : Hp} {a : Addr} {vs : List V} {ds : List D} (h : Tz F0 a vs) (r : RpA F0 vs ds) : Wk K C F0 (Iyt K a) (enum 0 ds) := fun F env σ H s g => by
  have ha := (h.up s).up g.ex
  have len : ∀ (k : Nat) (ds : List D), (enum k ds).length = ds.length := fun k ds => by
    induction ds generalizing k with
    | nil => rfl
    | cons d ds ih => simp [enum, ih]
  have get : ∀ (k : Nat) (ds : List D) (i : Nat) (d : D), (enum k ds)[i]? = some d → ∃ e, ds[i]? = some e ∧ d = .tuple [.int ((k + i : Nat) : Int), e] := fun k ds => by
    induction ds generalizing k with
    | nil => intro i d z; simp [enum] at z
    | cons d ds ih =>
      intro i e z
      cases i with
      | zero => simp [enum] at z; exact ⟨d, rfl, z.symm⟩
      | succ i =>
        simp only [enum, List.getElem?_cons_succ] at z
        obtain ⟨e', h1, h2⟩ := ih (k + 1) i e z
        refine ⟨e', by simpa using h1, ?_⟩
        rw [h2, show k + 1 + i = k + (i + 1) by omega]
  refine ⟨fun i hi => ⟨vs, ha.sq, by rw [r.length, ← len 0 ds]; exact hi⟩, fun i d hd => ?_⟩
  obtain ⟨e, z1, z2⟩ := get 0 ds i d hd
  obtain ⟨v, h1, h2⟩ := r.getd z1
  refine ⟨⟨vs, v, ha.sq, h1⟩, fun x H' ⟨T, o, y, e1, e2, eo, e3, hy⟩ => ?_⟩
  have e4 := hy vs (ha.sq)
  rw [h1] at e4; cases e4
  subst e1 e3 z2
  have hf := Same.none g.ex e2
  refine ⟨_, g.newF e2, Stp.newF g e2, .tup ⟨o, upd_same, eo⟩ (.cons ?_ (.cons ((h2.up s).up (same_upd hf)) .nil))⟩
  rw [Nat.zero_add]
  exact .int _
section
variable {X : Cx} {C : FC} {f : M RV}
theorem ji_enum {e : Expr} {p pos tpos : Pos} {elts : List Expr} {kk : Nat} (hg : Gl X "enumerate") (hm : X.mg "enumerate" = none) (h : JE X C e f) (hs : starEach [e] X.env = [(false, eval e X.env)] := by rfl) :
    JI X C (.Tuple elts kk tpos) (.Call (.Name "enumerate" p) [e] [] pos) (itEn (itSeq f)) := by
  have ha : PA X [e] (tCons (tJ X.K C f) tNil) := pa_cons h pa_nil hs
  exact ji_en (pi_enZ hg hm ha hs) (pi_enT hg hm ha hs) fun F0 a vs ds h r => wk_enT h r
end
end J
namespace J
open PySem L2
/-! ### the built-ins, each by its name -/
theorem bt_abs : bootBuiltins "abs" = some (.builtin "abs") := by decide +kernel
theorem bt_len : bootBuiltins "len" = some (.builtin "len") := by decide +kernel
theorem bt_sum : bootBuiltins "sum" = some (.builtin "sum") := by decide +kernel
theorem bt_all : bootBuiltins "all" = some (.builtin "all") := by decide +kernel
theorem bt_any : bootBuiltins "any" = some (.builtin "any") := by decide +kernel
theorem bt_max : bootBuiltins "max" = some (.builtin "max") := by decide +kernel
theorem bt_min : bootBuiltins "min" = some (.builtin "min") := by decide +kernel
theorem bt_isinstance : bootBuiltins "isinstance" = some (.builtin "isinstance") := by decide +kernel
theorem bt_sorted : bootBuiltins "sorted" = some (.builtin "sorted") := by decide +kernel
theorem bt_divmod : bootBuiltins "divmod" = some (.builtin "divmod") := by decide +kernel
theorem bt_int : bootBuiltins "int" = some (.type "int") := by decide +kernel
theorem bt_list : bootBuiltins "list" = some (.type "list") := by decide +kernel
theorem bt_tuple : bootBuiltins "tuple" = some (.type "tuple") := by decide +kernel
theorem bt_bool : bootBuiltins "bool" = some (.type "bool") := by decide +kernel
theorem bt_str : bootBuiltins "str" = some (.type "str") := by decide +kernel
theorem bt_range : bootBuiltins "range" = some (.type "range") := by decide +kernel
theorem bt_enumerate : bootBuiltins "enumerate" = some (.type "enumerate") := by decide +kernel
theorem bt_reversed : bootBuiltins "reversed" = some (.type "reversed") := by decide +kernel
theorem bt_zip : bootBuiltins "zip" = some (.type "zip") := by decide +kernel
section
variable {X : Cx} {C : FC} {a b c e : Expr} {es : List Expr} {p pos : Pos} {fa fb f : M RV} {ft : M Bool} {k : Nat}
theorem j_abs (hm : X.mg "abs" = none) (ha : JE X C a fa) (hg : Gl X "abs" := by rfl) (hs : starEach [a] X.env = (false, eval a X.env) :: starEach [] X.env := by rfl) :
    JE X C (.Call (.Name "abs" p) [a] [] pos) (eOp1 absD fa) := je_b s_abs (pe_callB call_abs hg hm bt_abs (pa_cons ha pa_nil hs) (he := hs))
theorem j_len (hm : X.mg "len" = none) (ha : JE X C a fa) (hg : Gl X "len" := by rfl) (hs : starEach [a] X.env = (false, eval a X.env) :: starEach [] X.env := by rfl) :
    JE X C (.Call (.Name "len" p) [a] [] pos) (eOp1 lenD fa) := je_b s_len (pe_callB call_len_seq hg hm bt_len (pa_cons ha pa_nil hs) (he := hs))
theorem j_int (hm : X.mg "int" = none) (ha : JE X C a fa) (hg : Gl X "int" := by rfl) (hs : starEach [a] X.env = (false, eval a X.env) :: starEach [] X.env := by rfl) :
    JE X C (.Call (.Name "int" p) [a] [] pos) (eOp1 intD fa) := je_b s_intc (pe_callTy call_int1 hg hm bt_int (pa_cons ha pa_nil hs) (he := hs))
theorem j_list (hm : X.mg "list" = none) (ha : JE X C a fa) (hg : Gl X "list" := by rfl) (hs : starEach [a] X.env = (false, eval a X.env) :: starEach [] X.env := by rfl) :
    JE X C (.Call (.Name "list" p) [a] [] pos) (eOp1 listD fa) := je_b s_list (pe_callTy call_list_of hg hm bt_list (pa_cons ha pa_nil hs) (he := hs))
theorem j_tuple (hm : X.mg "tuple" = none) (ha : JE X C a fa) (hg : Gl X "tuple" := by rfl) (hs : starEach [a] X.env = (false, eval a X.env) :: starEach [] X.env := by rfl) :
    JE X C (.Call (.Name "tuple" p) [a] [] pos) (eOp1 tupleD fa) := je_b s_tuple (pe_callTy call_tupleZ hg hm bt_tuple (pa_cons ha pa_nil hs) (he := hs))
theorem j_sum (hm : X.mg "sum" = none) (ha : JE X C a fa) (hc : X.calm = true := by rfl) (hg : Gl X "sum" := by rfl) (hs : starEach [a] X.env = (false, eval a X.env) :: starEach [] X.env := by rfl) :
    JE X C (.Call (.Name "sum" p) [a] [] pos) (eOp1 sumD fa) := je_b s_sum (pe_callB (cr_sum hc) hg hm bt_sum (pa_cons ha pa_nil hs) (he := hs))
theorem j_all (hm : X.mg "all" = none) (ha : JE X C a fa) (hc : X.calm = true := by rfl) (hg : Gl X "all" := by rfl) (hs : starEach [a] X.env = (false, eval a X.env) :: starEach [] X.env := by rfl) :
    JE X C (.Call (.Name "all" p) [a] [] pos) (eOp1 allD fa) := je_b s_all (pe_callB (cr_all hc) hg hm bt_all (pa_cons ha pa_nil hs) (he := hs))
theorem j_any (hm : X.mg "any" = none) (ha : JE X C a fa) (hc : X.calm = true := by rfl) (hg : Gl X "any" := by rfl) (hs : starEach [a] X.env = (false, eval a X.env) :: starEach [] X.env := by rfl) :
    JE X C (.Call (.Name "any" p) [a] [] pos) (eOp1 anyD fa) := je_b s_any (pe_callB (cr_any hc) hg hm bt_any (pa_cons ha pa_nil hs) (he := hs))
theorem j_max (hm : X.mg "max" = none) (ha : JE X C a fa) (hb : JE X C b fb) (hc : X.calm = true := by rfl) (hg : Gl X "max" := by rfl) (hs : starEach [a, b] X.env = (false, eval a X.env) :: starEach [b] X.env := by rfl)
    (hs2 : starEach [b] X.env = (false, eval b X.env) :: starEach [] X.env := by rfl) (hpl : (backTo pos (starEach [b] X.env)).any (·.1) = false := by rfl) :
    JE X C (.Call (.Name "max" p) [a, b] [] pos) (eOp2 maxD fa fb) := je_bb s_max (pe_callB (call_max2 hc) hg hm bt_max (pa_cons ha (pa_cons hb pa_nil hs2) hs) (he := hs) (hpl := hpl))
theorem j_min (hm : X.mg "min" = none) (ha : JE X C a fa) (hb : JE X C b fb) (hc : X.calm = true := by rfl) (hg : Gl X "min" := by rfl) (hs : starEach [a, b] X.env = (false, eval a X.env) :: starEach [b] X.env := by rfl)
    (hs2 : starEach [b] X.env = (false, eval b X.env) :: starEach [] X.env := by rfl) (hpl : (backTo pos (starEach [b] X.env)).any (·.1) = false := by rfl) :
    JE X C (.Call (.Name "min" p) [a, b] [] pos) (eOp2 minD fa fb) := je_bb s_min (pe_callB (call_min2 hc) hg hm bt_min (pa_cons ha (pa_cons hb pa_nil hs2) hs) (he := hs) (hpl := hpl))
/-- isinstance(a, T) -/
theorem je_isi {T : Ty} {ce : Expr} (h : PE X ce (tCB (rIsi X.K) (tCons (tJ X.K C fa) (tCons (tC (.ty (tyN T))) tNil)))) : JE X C ce (eOp1 (isiD T) fa) :=
  pe_weak h fun σ H Q z => by
    have S : SU (fun x H1 Q => rIsi X.K ([x] ++ [V.ty (tyN T)]) H1 Q) (isiD T) := fun F H x d rt Q s v e q => s_isi (X := X) T F H x d rt Q s v e q
    have w := un_run S z
    exact w
theorem j_isi_int (hm : X.mg "isinstance" = none) (ht : X.mg "int" = none) (ha : JE X C a fa) (hg : Gl X "isinstance" := by rfl) (hgt : Gl X "int" := by rfl) {q : Pos} (hs : starEach [a, .Name "int" q] X.env = (false, eval a X.env) :: starEach [.Name "int" q] X.env := by rfl) :
    JE X C (.Call (.Name "isinstance" p) [a, .Name "int" q] [] pos) (eOp1 (isiD .int) fa) := je_isi (T := .int) (pe_callB call_isi hg hm bt_isinstance (pa_cons ha (pa_cons (pe_bltn hgt ht bt_int rfl) pa_nil rfl) hs) (he := hs))
theorem j_isi_bool (hm : X.mg "isinstance" = none) (ht : X.mg "bool" = none) (ha : JE X C a fa) (hg : Gl X "isinstance" := by rfl) (hgt : Gl X "bool" := by rfl) {q : Pos} (hs : starEach [a, .Name "bool" q] X.env = (false, eval a X.env) :: starEach [.Name "bool" q] X.env := by rfl) :
    JE X C (.Call (.Name "isinstance" p) [a, .Name "bool" q] [] pos) (eOp1 (isiD .bool) fa) := je_isi (T := .bool) (pe_callB call_isi hg hm bt_isinstance (pa_cons ha (pa_cons (pe_bltn hgt ht bt_bool rfl) pa_nil rfl) hs) (he := hs))
theorem j_isi_list (hm : X.mg "isinstance" = none) (ht : X.mg "list" = none) (ha : JE X C a fa) (hg : Gl X "isinstance" := by rfl) (hgt : Gl X "list" := by rfl) {q : Pos} (hs : starEach [a, .Name "list" q] X.env = (false, eval a X.env) :: starEach [.Name "list" q] X.env := by rfl) :
    JE X C (.Call (.Name "isinstance" p) [a, .Name "list" q] [] pos) (eOp1 (isiD .list) fa) := je_isi (T := .list) (pe_callB call_isi hg hm bt_isinstance (pa_cons ha (pa_cons (pe_bltn hgt ht bt_list rfl) pa_nil rfl) hs) (he := hs))
theorem j_isi_tuple (hm : X.mg "isinstance" = none) (ht : X.mg "tuple" = none) (ha : JE X C a fa) (hg : Gl X "isinstance" := by rfl) (hgt : Gl X "tuple" := by rfl) {q : Pos} (hs : starEach [a, .Name "tuple" q] X.env = (false, eval a X.env) :: starEach [.Name "tuple" q] X.env := by rfl) :
    JE X C (.Call (.Name "isinstance" p) [a, .Name "tuple" q] [] pos) (eOp1 (isiD .tuple) fa) := je_isi (T := .tuple) (pe_callB call_isi hg hm bt_isinstance (pa_cons ha (pa_cons (pe_bltn hgt ht bt_tuple rfl) pa_nil rfl) hs) (he := hs))
theorem j_isi_str (hm : X.mg "isinstance" = none) (ht : X.mg "str" = none) (ha : JE X C a fa) (hg : Gl X "isinstance" := by rfl) (hgt : Gl X "str" := by rfl) {q : Pos} (hs : starEach [a, .Name "str" q] X.env = (false, eval a X.env) :: starEach [.Name "str" q] X.env := by rfl) :
    JE X C (.Call (.Name "isinstance" p) [a, .Name "str" q] [] pos) (eOp1 (isiD .str) fa) := je_isi (T := .str) (pe_callB call_isi hg hm bt_isinstance (pa_cons ha (pa_cons (pe_bltn hgt ht bt_str rfl) pa_nil rfl) hs) (he := hs))
/-! ### the script -/
theorem j_scLen {i : Nat} (hm : X.mg "len" = none) (ha : PE X a (tVar i)) (hg : Gl X "len" := by rfl) (hs : starEach [a] X.env = (false, eval a X.env) :: starEach [] X.env := by rfl) : JE X C (.Call (.Name "len" p) [a] [] pos) (eScLen i) :=
  je_scLen (fun p ys H Q h q => ⟨p, ys, rfl, .inl h, q⟩) (pe_callB call_len_seq hg hm bt_len (pa_cons ha pa_nil hs) (he := hs))
theorem j_scIx {i : Nat} (ha : PE X a (tVar i)) (hb : JE X C b f) (hs : PlainIx b := by intro _ _; rfl) : JE X C (.Subscript a b pos) (eScIx i f) := je_scIx (pe_ix ix_seq ha hb hs)
theorem j_scSl {i : Nat} {lo hi : Option Expr} {p2 : Pos} {gl gh : M (Option Int)} (ha : PE X a (tVar i)) (hl : JO X C lo gl) (hh : JO X C hi gh) : JE X C (.Subscript a (.Slice lo hi none p2) pos) (eScSl i gl gh) := je_scSl (pe_slice sl_list ha hl hh)
theorem j_ix (ha : JE X C a fa) (hb : JE X C b fb) (hs : PlainIx b := by intro _ _; rfl) : JE X C (.Subscript a b pos) (eOp2 ixD fa fb) := je_ix ix_seq s_ix ha hb hs
theorem j_sl {lo hi : Option Expr} {p2 : Pos} {gl gh : M (Option Int)} (ha : JE X C a fa) (hl : JO X C lo gl) (hh : JO X C hi gh) : JE X C (.Subscript a (.Slice lo hi none p2) pos) (eSl slD fa gl gh) := je_sl (sl_list.or (sl_tupZ.or sl_tupW)) s_sl ha hl hh
/-! ### statements -/
theorem js_asgF {st : Stmt} {i : Nat} {mp : List Nat} (hc : C.mp = mp) (hm : i ∉ mp) (h : PS X st (tAsg (tJ X.K C f) (gName i))) : JS X C st (sUnp (gNm i) f) := by
  subst hc
  refine ps_weak h fun D' σ H ⟨F, env, fl, hd, he, q⟩ => ?_
  simp only [sUnp] at he
  split at he
  · cases he
  rename_i x e1 h1
  split at he
  · cases he
  rename_i d e2 h2
  simp only [gNm] at he
  cases he
  refine tJ.go hd h1 fun F1 H1 v s1 g1 r1 => ?_
  obtain ⟨F2, s2, g2, r2, _⟩ := g1.fzv hd s1 r1 h2
  exact q F2 _ H1 s2.exF (g2.asgF r2 hm)
theorem js_extL {i : Nat} {st : Stmt} (h : PS X st (tDrop (tBM X.K "list" rExtend (tVar i) (tCons (tJ X.K C f) tNil)))) : JS X C st (sExtL i f) := by
  refine ps_weak h fun D' σ H ⟨F, env, fl, hd, he, q⟩ => ?_
  simp only [sExtL] at he
  split at he
  · rename_i ds0 h0
    split at he
    · cases he
    rename_i x e1 h1
    split at he
    · rename_i es h2
      split at he
      · rename_i ds h3
        split at he
        · rename_i hlen
          cases he
          obtain ⟨a, vs0, p1, p2, _⟩ := hd.ow i ds0 h0
          refine ⟨_, p1, .inl ⟨rfl, _, SqL.of p2⟩, tJ.go hd h1 fun F1 H1 v s1 g1 r1 => ?_⟩
          obtain ⟨b, vs, q1, q2, q3, q4, q5⟩ := g1.ow i ds h3
          rw [p1] at q1; cases q1
          show rExtend (.ref a) [v] H1 (fun _ H2 => D'.nx σ H2)
          refine s_ext (ds := ds) g1.ex (g1.vw r1 h2) ⟨es, rfl⟩ rfl q2 q4.length hlen fun ws rw' => ?_
          exact q F1 σ _ s1.exF (g1.write h3 p1 (q4.append rw')).1
        · cases he
      · cases he
    · cases he
  · cases he
theorem js_aug {st : Stmt} {i : Nat} {g : Int → Int → Int} {mp : List Nat} (hc : C.mp = mp) (hm : i ∉ mp) (h : PS X st (tAug i (tJ X.K C f) (ipI g))) : JS X C st (sAug i g f) := by
  subst hc
  refine ps_weak h fun D' σ H ⟨F, env, fl, hd, he, q⟩ => ?_
  simp only [sAug] at he
  split at he
  · rename_i n h0
    split at he
    · rename_i m e1 h1
      cases he
      obtain ⟨w, z1, z2⟩ := hd.fz i _ h0
      cases z2
      refine ⟨_, z1, tJ.go hd h1 fun F1 H1 v s1 g1 r1 => ?_⟩
      have r1' : Rp F1 v (.int m) := r1
      cases r1'
      exact ⟨n, m, rfl, rfl, q F1 _ H1 s1.exF (g1.asgF (.int _) hm)⟩
    · cases he
  · cases he
/-- y = [..] -/
theorem lc_ps {st : Stmt} {i : Nat} {er mp : List Nat} {g : G} {it : M (List D)} {fe : M RV} (hc : C.mp = mp) (hm : ∀ i ∈ er, i ∉ mp) (hn : ∀ d env env', g d env = some env' → NoNew env env')
    (h : PS X st (tAsg (tLc (tiJ X.K C it) (tgJ X.K C er g) (ttJ X.K C ft) (tJ X.K C fe) er) (gName i))) : PS X st (tAsg (tJ X.K C (eLc er g it ft fe)) (gName i)) := ps_weak h fun D' σ H z => lc_run hc hm hn z
theorem jgx (sl : List Nat) {tg : Expr} {g : G} (h : JG X C sl tg g) : JG X C sl tg g := h
theorem j_app {i : Nat} {o : Expr} {ap cp sp : Pos} (ho : PE X o (tVar i)) (ha : JE X C a f) (h : ∀ {te : TE}, PE X (.Call (.Attribute o "append" ap) [a] [] cp) te → PS X (.Expr (.Call (.Attribute o "append" ap) [a] [] cp) sp) (tDrop te))
    (h2 : ∀ {t : TA}, PA X [a] t → PE X (.Call (.Attribute o "append" ap) [a] [] cp) (tBM X.K "list" rAppend (tVar i) t)) (hs : starEach [a] X.env = (false, eval a X.env) :: starEach [] X.env := by rfl) : JS X C (.Expr (.Call (.Attribute o "append" ap) [a] [] cp) sp) (sApp i f) :=
  js_app (h (h2 (pa_cons ha pa_nil hs)))
/-! ### calls -/
def Cal (P : Program) (w : World) (K : Fr) (mg : Str → Option Value) (base : Heap) (x : Str) (k : Nat) (ps : List Str) (ks : List PK) (fn : FnS) : Prop :=
  ∃ (fa : Addr) (fd : FuncData), FnOk P w K mg base CX0 k fa fd ps (spJ K ks fn) ∧ mg x = some (.ref fa) ∧ PySem.W.keepIn K (.ref fa) = true ∧ Binds K fd ps []
theorem j_call {x : Str} {kg : Nat} {ps : List Str} {ks : List PK} {fn : FnS} {as : List Ar} (Cg : Cal X.prog X.w X.K X.mg X.base x kg ps ks fn) (hr : Room k X.A) (hk : kg ≤ k) (ha : JAr X C (e :: es) as) (hf : fits ks as = true) (hg : Gl X x := by rfl)
    (hdb : (x == ("__debug__" : Str)) = false := by decide) (he : starEach (e :: es) X.env = (false, eval e X.env) :: starEach es X.env := by rfl) (hpl : (backTo pos (starEach es X.env)).any (·.1) = false := by rfl) : JE X C (.Call (.Name x p) (e :: es) [] pos) (eCall fn as) := by
  obtain ⟨fa, fd, F, hm, kp, hb⟩ := Cg
  exact je_call hf (pe_call F (hr.mono hk) hg hm kp hb .nil pass0 ha hdb he hpl)
end
/-! ### the law's head -/
theorem sp_law {K : Fr} {fn : FnS} {H : Hp} {a : Addr} {ns : List Int} (ho : Only H) (hs : SqL K H a (ns.map V.int)) (h : fn [.list (ns.map PyData.int)] = some (.fz (.bool true), [])) : spJ K [.sc] fn [.ref a] H (fun v _ => v = .bl true) fun _ _ _ => False := by
  refine ⟨fun _ => none, [.list (ns.map PyData.int)], .fz (.bool true), [], (fun a o z => by cases z), .cons ⟨a, ns, rfl, rfl, ?_⟩ .nil, List.nodup_nil, h, fun v F' H' _ _ _ _ _ _ r => ?_⟩
  · rcases hs with z | z
    · exact .inl ⟨z, by simp [mutA]⟩
    · exact .inr z
  · have r' : Rp F' v (.bool true) := r
    cases r'
    rfl
theorem jwalk {l : PySem.W.OpenLaw} {k : Nat} {q : Program} {loose : List Str} {XP : (Str → Option Value) → Heap → Prop} {YP : World → Heap → Prop} {d : DefRec} {K : Params → Fr} {fn : FnS} {x : Str} (hn : l.most = some 63) (hdf : d.params.defaults = []) (hr : Room k callerA)
    (hY : ∀ (w : World) (h : Heap), YP w h → (K w.params).In h) (hp : ∀ ns : List Int, ns.length ≤ 63 → fn [.list (ns.map PyData.int)] = some (.fz (.bool true), []))
    (F : ∀ (w : World) (mg : Str → Option Value) (fa : Addr) (h : Heap), (K w.params).In h → h.Ns mainGlobals mg → mg d.name = some (.ref fa) →
      ∃ fd : FuncData, (∀ (s : Shared) (u : Value), BindsTo s fd ⟨[u], []⟩ [(x, u)]) ∧ ∀ base : Heap, (K w.params).In base → base.Ns mainGlobals mg → FnOk l.prog w (K w.params) mg base CX0 k fa fd [x] (spJ (K w.params) [.sc] fn)) :
    PySem.W.WalkO q loose XP YP l.row.toRowW d [] (fun f vs => PySem.call f vs) :=
  L2.walk_of (n := 63) (CX := fun _ => CX0) (sp := fun w => spJ (K w.params) [.sc] fn) hn (by decide) hdf hr hY F (fun w H a ns hl ho hs => sp_law ho hs (hp ns hl)) fun _ _ _ _ _ z => z
end J
namespace J
open PySem L2 PySem.Spec PyProof.Rows
/-! ### t[::-1], t a tuple -/
theorem back_places (n : Nat) : Builtin.Slice.slicePlaces ((n : Int) - 1) (-1) (-1) = n := by
  unfold Builtin.Slice.slicePlaces
  rw [if_neg (by decide)]
  by_cases h : (n : Int) - 1 > -1
  · rw [if_pos h, show (n : Int) - 1 - -1 - 1 = (n : Int) - 1 by omega, show (- -1 : Int) = 1 by decide, Int.ediv_one]
    omega
  · rw [if_neg h]
    omega
theorem fm_congr {α β : Type} {f g : α → Option β} : ∀ {l : List α}, (∀ x ∈ l, f x = g x) → l.filterMap f = l.filterMap g
  | [], _ => rfl
  | a :: l, h => by
    rw [List.filterMap_cons, List.filterMap_cons, h a List.mem_cons_self, fm_congr fun x hx => h x (List.mem_cons_of_mem _ hx)]
theorem back_pick (xs : Array Value) : ((List.range xs.size).filterMap fun (k : Nat) => xs[((xs.size : Int) - 1 + (k : Int) * -1).toNat]?).toArray = xs.toList.reverse.toArray := by
  congr 1
  apply List.ext_getElem?
  intro i
  rw [show (List.range xs.size).filterMap (fun (k : Nat) => xs[((xs.size : Int) - 1 + (k : Int) * -1).toNat]?) = (List.range xs.size).map (fun k => xs.toList.reverse[k]?.getD .none) by
    rw [← List.filterMap_eq_map]
    apply fm_congr
    intro k hk
    have hk' := List.mem_range.mp hk
    have e : ((xs.size : Int) - 1 + (k : Int) * -1).toNat = xs.size - 1 - k := by omega
    show xs[((xs.size : Int) - 1 + (k : Int) * -1).toNat]? = some (xs.toList.reverse[k]?.getD .none)
    rw [e, List.getElem?_reverse (by rw [Array.length_toList]; exact hk'), Array.length_toList, ← Array.getElem?_toList]
    have hlt : xs.size - 1 - k < xs.toList.length := by rw [Array.length_toList]; omega
    rw [List.getElem?_eq_getElem hlt]
    rfl]
  rw [List.getElem?_map]
  rcases Nat.lt_or_ge i xs.size with h | h
  · rw [List.getElem?_range h, Option.map_some]
    have hlt : i < xs.toList.reverse.length := by rw [List.length_reverse, Array.length_toList]; exact h
    rw [List.getElem?_eq_getElem hlt]
    rfl
  · rw [List.getElem?_eq_none (by rw [List.length_range]; exact h), List.getElem?_eq_none (by rw [List.length_reverse, Array.length_toList]; exact h)]
    rfl
theorem back_applied {prog : Program} {w : World} {A : Around} {E : Value → Shared → Prop} {s : Shared} {sl : Addr} {vs : Value} {n : Nat} {Q : Int × Int × Nat → Shared → Prop} (hs : s.heap.IsSliceOf sl .none .none vs) (ps : IsPart vs (some (-1)))
    (q : Q ((n : Int) - 1, -1, n) s) : wpAny (model prog w) A (Builtin.Slice.sliceApplied (.ref sl) (pure (n : Int))) Q E s := by
  obtain ⟨o, ho, hc, hd⟩ := id hs
  unfold Builtin.Slice.sliceApplied Builtin.Slice.sliceFields
  refine wpAny_bind (wpAny_bind (wpAny_field ho hd (x := .none) rfl (wpAny_bind (wpAny_field ho hd (x := .none) rfl (wpAny_bind (wpAny_field ho hd (x := vs) rfl (wpAny_pure ?_)))))))
  refine wpAny_bind (HT.slicePart_ ps ?_)
  show wpAny _ _ (if ((-1 : Int) == 0) = true then _ else _) _ _ s
  rw [if_neg (by decide)]
  refine wpAny_bind (slicePart_none (wpAny_bind (slicePart_none (wpAny_bind (wpAny_pure ?_)))))
  show wpAny _ _ (pure ((n : Int) - 1, (-1 : Int), Builtin.Slice.slicePlaces ((n : Int) - 1) (-1) (-1))) _ _ s
  rw [back_places]
  exact wpAny_pure q
theorem back_tuple {prog : Program} {w : World} {A : Around} {E : Value → Shared → Prop} {s : Shared} {t sl : Addr} {xs : Array Value} {vs : Value} {Q : Value → Shared → Prop} (ht : IsTup s.heap t xs) (hs : s.heap.IsSliceOf sl .none .none vs) (ps : IsPart vs (some (-1))) (hz : xs.size ≤ sizeLine)
    (q : Q (.ref s.heap.objs.size) { s with heap := s.heap.push { cls := .type "tuple", data := .seq xs.toList.reverse.toArray } }) : wpAny (model prog w) A (getItem (.ref t) (.ref sl)) Q E s := by
  have hok : sizeOk (.seq xs.toList.reverse.toArray) := by
    show xs.toList.reverse.toArray.size ≤ sizeLine
    rw [List.size_toArray, List.length_reverse, Array.length_toList]
    exact hz
  obtain ⟨o, ho, hc, hd⟩ := id hs
  have hT : s.TypeIs (.ref sl) "slice" := ⟨o, ho, hc⟩
  unfold getItem
  try with_reducible refine wpAny_holding ?_
  first
    | refine wpAny_bind (wpAny_pure ?_)
    | skip
  refine wpAny_bind (wpAny_sequenceKey ht.typeIs (by decide) ?_)
  refine wpAny_bind (wpAny_callSpecial?_slot (name := Str.ofString "__getitem__") ht.typeIs PyProof.Rows.slot_tuple_getitem (wpAny_call_entry PyProof.Rows.slot_tuple_getitem ht.typeIs entry_tuple_getitem ?_ (args_tuple_getitem _ _)))
  show wpAny _ _ (Builtin.Tuple.tupleItemsOf (.ref t) >>= fun xs => _) _ _ s
  refine wpAny_bind (tupleItemsOf_ ht (wpAny_bind (wpAny_typeOf hT ?_)))
  rw [if_pos (by decide)]
  refine wpAny_bind (back_applied hs ps ?_)
  show wpAny _ _ (if (((xs.size : Int) - 1 == 0) && (-1 : Int) == 1 && xs.size == xs.size) = true then _ else _) _ _ s
  rw [if_neg (by intro z; rw [Bool.and_eq_true, Bool.and_eq_true] at z; exact absurd (eq_of_beq z.1.2) (by decide)), back_pick]
  first
    | exact wpAny_bind (m := Builtin.Tuple.tupleExact _) (wpAny_newObj_type (wpAny_pure ⟨_, rfl, wpAny_pure q⟩) hok)
    | exact wpAny_bind (wpAny_bind (m := Builtin.Tuple.tupleExact _) (wpAny_newObj_type (wpAny_pure (wpAny_pure ⟨_, rfl, wpAny_pure q⟩)) hok))
    | exact wpAny_bind (m := Builtin.Tuple.tupleExact _) (wpAny_newObj_type (wpAny_bind (wpAny_pure (wpAny_pure ⟨_, rfl, wpAny_pure q⟩))) hok)
def tRevT (K : Fr) (te : TE) : TE := fun σ H Q => te σ H fun x H1 => ∃ a xs, x = .ref a ∧ SqT K H1 a xs ∧ LaysT H1 xs.reverse Q
theorem pe_revT {X : Cx} {e : Expr} {te : TE} {k : Nat} {p1 p2 p3 pos : Pos} (he : PE X e te) : PE X (.Subscript e (.Slice none none (some (.UnaryOp .USub (.Constant (.int 1) k p1) p2)) p3) pos) (tRevT X.K te) :=
  ⟨fun pins s σ H Q I h => by
    refine Subscript_ (thn (he.run pins s σ H _ I h) fun v s1 ⟨x, H1, J1, rx, a, xs, ex, hx, q⟩ => ?_)
    subst ex
    cases rx
    have st : PO X (some (.UnaryOp .USub (.Constant (.int 1) k p1) p2)) (tPart (tUn (rU fun i => .int (-i)) (tC (.int 1)))) := po_some (pe_un un_neg pe_int)
    refine wpAny_Slice (thn (po_none.run pins s1 σ H1 (fun o G => o = none ∧ G = H1) J1 ⟨rfl, rfl⟩) fun vl s2 ⟨l, G2, J2, pl, el, e2⟩ => ?_)
    subst el e2
    refine thn (po_none.run pins s2 σ G2 (fun o G => o = none ∧ G = G2) J2 ⟨rfl, rfl⟩) fun vu s3 ⟨u, G3, J3, pu, eu, e3⟩ => ?_
    subst eu e3
    refine thn (st.run pins s3 σ G3 (fun o G => o = some (-1) ∧ G = G3) J3 ⟨1, rfl, -1, rfl, rfl, rfl⟩) fun vs s4 ⟨o, G4, J4, ps, eo, e4⟩ => ?_
    subst eo e4
    cases pl
    cases pu
    have J5 : Inv X pins σ G4 { s4 with heap := s4.heap.push { cls := .type "slice", data := .fields #[.none, .none, vs] } } := J4.kept (t' := s4.toks) fun b ob z => Heap.get?_push_of_some _ z
    obtain ⟨its, r, ht, hz⟩ := J5.tuple hx
    have hlen := r.length
    have ht' : IsTup (s4.heap.push { cls := .type "slice", data := .fields #[.none, .none, vs] }) a its.toArray := ht
    show wpAny (model X.prog X.w) X.A (subscriptTail e (.Slice none none (some (.UnaryOp .USub (.Constant (.int 1) k p1) p2)) p3) (.ref a) (.ref s4.heap.objs.size)) _ X.xe { s4 with heap := s4.heap.push { cls := .type "slice", data := .fields #[.none, .none, vs] } }
    refine tail_any (ops := [.ref a, .ref s4.heap.objs.size]) ht'.typeIs (PyProof.Rows.slot_tuple_getitem.lookup) ?_ (by with_unfolding_all rfl)
    refine back_tuple ht' (Heap.IsSliceOf.new _ .none .none vs) ps (by rw [List.size_toArray]; omega) ?_
    exact layZ (t := s4.toks) J5 (by rw [List.length_reverse]; exact hz) r.reverse q⟩
/-- one of two ways -/
theorem pe_or {X : Cx} {e : Expr} {t u : TE} (h1 : PE X e t) (h2 : PE X e u) : PE X e (fun σ H Q => t σ H Q ∨ u σ H Q) := ⟨fun pins s σ H Q I h => h.elim (h1.run pins s σ H Q I) (h2.run pins s σ H Q I)⟩
section
variable {X : Cx} {C : FC} {a b c e : Expr} {es : List Expr} {p pos : Pos} {fa fb f : M RV} {ft : M Bool} {k : Nat}
theorem rev_run {K : Fr} {f : M RV} {σ : L2.St} {H : Hp} {Q : VK} (h : tJ K C (eOp1 revD f) σ H Q) : tRevL K (tJ K C f) σ H Q ∨ tRevT K (tJ K C f) σ H Q := by
  obtain ⟨F, env, rv, env', hd, he, q⟩ := h
  simp only [eOp1] at he
  split at he
  · cases he
  rename_i x e1' ha
  split at he
  · cases he
  rename_i d hdx
  split at he
  · cases he
  rename_i rt hg
  cases he
  cases d <;> simp only [revD] at hg <;> cases hg
  · refine .inl (tJ.go hd ha fun F1 H1 v s1 h1 r1 => ?_)
    obtain ⟨l, vs, rfl, g1, g2⟩ := h1.vw r1 hdx
    exact ⟨l, vs, rfl, SqL.of g1, fun a ha => POp.end h1 s1 q a _ ha g2.reverse⟩
  · refine .inr (tJ.go hd ha fun F1 H1 v s1 h1 r1 => ?_)
    cases (show Rp F1 v _ from h1.vw r1 hdx) with
    | tup g1 g2 => exact ⟨_, _, rfl, (g1.up h1.ex).sq, fun a o ha ho => POp.end h1 s1 q _ _ _ (.inr ⟨a, o, _, ha, ho, rfl, rfl⟩) (.tup ⟨o, upd_same, ho⟩ (g2.reverse.up (same_upd (Same.none h1.ex ha))))⟩
theorem j_rev {k : Nat} {p1 p2 p3 pos : Pos} (ha : JE X C a fa) : JE X C (.Subscript a (.Slice none none (some (.UnaryOp .USub (.Constant (.int 1) k p1) p2)) p3) pos) (eOp1 revD fa) :=
  pe_weak (pe_or (pe_revL ha) (pe_revT ha)) fun σ H Q h => rev_run h
end
/-! ### calls whose first argument is a fresh list -/
section
variable {X : Cx} {C : FC} {a b c e : Expr} {es : List Expr} {p pos : Pos} {fa fb f : M RV} {ft : M Bool} {k : Nat}
theorem j_callT {x : Str} {kg : Nat} {ps : List Str} {ks : List PK} {fn : FnS} {as : List Ar} (Cg : Cal X.prog X.w X.K X.mg X.base x kg ps (.mt :: ks) fn) (hr : Room k X.A) (hk : kg ≤ k) (he0 : JE X C e f) (ha : JAr X C es as) (hf : fits ks as = true) (hg : Gl X x := by rfl)
    (hdb : (x == ("__debug__" : Str)) = false := by decide) (he : starEach (e :: es) X.env = (false, eval e X.env) :: starEach es X.env := by rfl) (hpl : (backTo pos (starEach es X.env)).any (·.1) = false := by rfl) : JE X C (.Call (.Name x p) (e :: es) [] pos) (eCallT fn f as) := by
  obtain ⟨fa, fd, F, hm, kp, hb⟩ := Cg
  exact je_callT hf (pe_call F (hr.mono hk) hg hm kp hb .nil pass0 (pa_cons he0 ha he) hdb he hpl)
/-! ### defs of any number of arguments -/
def spV (K : Fr) (fn : FnS) : Sp := fun vs H Q _ => ∃ F ds r, Same F H ∧ RpA F vs ds ∧ vs.length ≤ sizeLine ∧ fn [.tuple ds] = some (r, []) ∧
  ∀ v F' H', Same F F' → Same F' H' → (∀ a o, H a = some o → H' a = some o) → (∀ a, H' a = none → H a = none) → (∀ a, F' a ≠ none → F a ≠ none ∨ H a = none) → ResR H F' H' r v → Q v H'
/-! def f(*v) -/
section
variable {P : Program} {w : World} {K : Fr} {mg : Str → Option Value} {base : Heap}
theorem fnz_star {x qual pv : Str} {st : Stmt} {N : List Str} {k : Nat} {f : Addr} {oc : Value} {od an : Option Addr} {kV doc pm cdv ct : Value} {osl : Array (Option Value)} {sp : Sp}
    (lk : K.lookup f = some ⟨oc, od, .func (PySem.W.fnOf x qual (defArgs st) (defBody st) (defScope st) .none kV doc pm an cdv ct), osl⟩) (hcd : PySem.W.codeIn K cdv qual = true) (S : FnScope N [pv] (defScope st)) (hCX : StX.CXUp CX0)
    (hb : ∀ us : List Value, bindArgs (PySem.W.fnOf x qual (defArgs st) (defBody st) (defScope st) .none kV doc pm an cdv ct) ⟨us, []⟩ = (newTuple us >>= fun t => pure [(pv, t)]))
    (hbody : ∀ (A : Around) (outer : List PySem.Env) (s : Shared) (H : Hp) (vs : List V) (Q : VK) (E : XK), Room k (A.deeper (envOfC qual (defScope st) s.heap.objs.size f cdv)) → sp vs H Q E →
      ∃ t, PSs (cxOf CX0 P w K mg base N qual (defScope st) f cdv A outer s H E) (defBody st) t ∧ t { nx := fun _ H' => Q .non H', rt := Q } (start N vs) H) :
    FnR P w K mg base CX0 (k + 1) f (fun vs H Q E => vs.length ≤ sizeLine ∧ ∀ (p : Addr) (o : Obj), H p = none → o.dict = none → sp [V.ref p] (upd H p (.frz o (.tup vs))) Q E) := by
  intro A outer s H us vs Q E hr e0 r hsp
  obtain ⟨hz, hq⟩ := hsp
  have hn : H s.heap.objs.size = none := e0.hok.fresh (Nat.le_refl _)
  have hl2 : us.length ≤ sizeLine := by rw [← r.length]; exact hz
  refine StX.run_bnd lk hcd S hr e0 (G := fun xs H2 => ∃ (p : Addr) (o : Obj), H p = none ∧ o.dict = none ∧ xs = [V.ref p] ∧ H2 = upd H p (.frz o (.tup vs))) (fun A' Ex Q' h => ?_) fun s2 H2 xs ⟨p, o, hp, ho, ex, eH⟩ hr' => ?_
  · rw [hb us]
    refine wpAny_bind (wpAny_newTuple (wpAny_pure ?_) hl2)
    have un := StX.un_laid (fs := frs outer) (s := s) (o := ({ cls := .type "tuple", data := .seq us.toArray } : Obj)) (u := .frz { cls := .type "tuple", data := .seq us.toArray } (.tup vs)) hn
    exact h _ _ [V.ref s.heap.objs.size] [Value.ref s.heap.objs.size] (StX.env0_laid e0 (okZ hz r)) un rfl (fun e s' => hCX outer s H _ _ E e s' un (fun b o q => Heap.get?_push_of_some _ q) rfl) (.cons rfl .nil) rfl ⟨_, _, hn, rfl, rfl, rfl⟩
  · subst ex eH
    exact hbody A outer s2 _ _ Q E hr' (hq p o hp ho)
end
theorem fnJS {P : Program} {w : World} {K : Fr} {mg : Str → Option Value} {base : Heap} {x qual pv : Str} {st : Stmt} {fa : Addr} {fd : FuncData} {N : List Str} {k n : Nat} {f : SM} (Fu : Fun K x qual st fa fd) (S : FnScope N [pv] (defScope st)) (hN : N.length = 1 + n)
    (hbd : ∀ (kV doc pm : Value) (an : Option Addr) (cdv ct : Value) (us : List Value), bindArgs (PySem.W.fnOf x qual (defArgs st) (defBody st) (defScope st) .none kV doc pm an cdv ct) ⟨us, []⟩ = (newTuple us >>= fun t => pure [(pv, t)]))
    (hb : ∀ (cdv : Value) (A : Around) (outer : List PySem.Env) (s : Shared) (H : Hp) (E : XK) (C : FC), Room k (A.deeper (PyProof.Rows.envOfC qual (defScope st) s.heap.objs.size fa cdv)) → C.mp = [] →
      JSs (cxOf CX0 P w K mg base N qual (defScope st) fa cdv A outer s H E).nox C (defBody st) f) :
    FnR P w K mg base CX0 (k + 1) fa (spV K (mkFn [.fz] n f)) := by
  obtain ⟨oc, od, kV, doc, pm, an, cdv, ct, osl, rfl, lk, hcd⟩ := Fu.ex
  have main := fnz_star (P := P) (w := w) (mg := mg) (base := base) (k := k) (pv := pv) (N := N) (sp := spJ K [.fz] (mkFn [.fz] n f)) lk hcd S StX.cxUp_none (hbd kV doc pm an cdv ct) fun A outer s H vs Q E hr h => by
        obtain ⟨C, hC, _, _, z⟩ := runJ mg (ks := [.fz]) hN h
        exact ⟨_, (show PSs _ _ _ from hb cdv A outer s H E C hr hC).nox, z⟩
  refine main.imp fun vs H Q E h => ?_
  obtain ⟨F, ds, r, s1, r1, hz, hf, q⟩ := h
  refine ⟨hz, fun p o hp ho => ?_⟩
  have fp := Same.none s1 hp
  have up : Same F (upd F p (.frz o (.tup vs))) := same_upd fp
  refine ⟨upd F p (.frz o (.tup vs)), [.tuple ds], r, [], fun a o z => ?_, .cons (.tup ⟨o, upd_same, ho⟩ (r1.up up)) .nil, List.nodup_nil, hf, fun v F' H' s1' s2' kp old dom _ res => ?_⟩
  · by_cases e : a = p
    · subst e
      rw [upd_same] at z ⊢
      exact z
    · rw [upd_ne e] at z ⊢
      exact s1 a o z
  · refine q v F' H' (up.trans s1') s2' (fun a o z => kp a o (by rw [upd_ne (ne_of_none z hp)]; exact z) (by simp [mutA])) (fun a z => (upd_none (old a z)).2) (fun a z => ?_) ?_
    · rcases dom a z with w | w
      · by_cases e : a = p
        · subst e; exact .inr hp
        · rw [upd_ne e] at w; exact .inl w
      · exact .inr (upd_none w).2
    · cases r with
      | fz d => exact res
      | ow ds' =>
        obtain ⟨a, ws, e, w1, w2⟩ := res
        exact ⟨a, ws, e, (upd_none w1).2, w2⟩
      | nt o => exact ⟨res.1, fun a m => (upd_none (res.2 a m)).2⟩
def CalV (P : Program) (w : World) (K : Fr) (mg : Str → Option Value) (base : Heap) (x : Str) (k : Nat) (fn : FnS) : Prop :=
  ∃ fa : Addr, FnR P w K mg base CX0 k fa (spV K fn) ∧ mg x = some (.ref fa) ∧ PySem.W.keepIn K (.ref fa) = true
theorem callV_run {K : Fr} {fn : FnS} {as : M (List D)} {n : Nat} (hn : n ≤ 1000) (ha : ∀ env ds env', as env = some (ds, env') → ds.length = n) {σ : L2.St} {H : Hp} {Q : VK} (h : tJ K C (eCallV fn as) σ H Q) : taJ K C as σ H fun vs H1 => spV K fn vs H1 Q E0 := by
  obtain ⟨F, env, rv, env', hd, he, q⟩ := h
  simp only [eCallV] at he
  split at he
  · rename_i ds e1 h1
    split at he
    · rename_i r h2
      cases he
      refine taJ.go hd h1 fun F1 H1 vs s1 g1 r1 => ⟨F1, ds, r, g1.ex, r1, by rw [r1.length, ha _ _ _ h1]; exact Nat.le_trans hn (by decide), h2, fun v F' H' s1' s2' kp old dom res => ?_⟩
      obtain ⟨g2, s2, nn⟩ := g1.called (is := []) (as := []) (ms := []) .nil (fun i h => absurd h (by simp)) rfl s1' s2' (fun a o z _ => kp a o z) old dom .nil
      refine q F' H' v (s1.trans s2) g2 ?_
      cases r with
      | fz d => exact res
      | ow ds' =>
        obtain ⟨a, ws, rfl, p1, p2, p3, p4⟩ := res
        exact ⟨a, ws, rfl, p3, p2, p4, s1.old a p1, nn a p1⟩
      | nt o => exact ⟨res.1, fun a m => ⟨s1.old a (res.2 a m), nn a (res.2 a m)⟩⟩
    · cases he
  · cases he
theorem j_callV {x : Str} {kg n : Nat} {fn : FnS} {as : M (List D)} (Cg : CalV X.prog X.w X.K X.mg X.base x kg fn) (hr : Room k X.A) (hk : kg ≤ k) (ha : JA X C n (e :: es) as) (hn : n ≤ 1000 := by decide) (hg : Gl X x := by rfl)
    (hdb : (x == ("__debug__" : Str)) = false := by decide) (he : starEach (e :: es) X.env = (false, eval e X.env) :: starEach es X.env := by rfl) (hpl : (backTo pos (starEach es X.env)).any (·.1) = false := by rfl) : JE X C (.Call (.Name x p) (e :: es) [] pos) (eCallV fn as) := by
  obtain ⟨fa, F, hm, kp⟩ := Cg
  refine pe_weak (t := fun σ H Q => taJ X.K C as σ H fun vs H1 => spV X.K fn vs H1 Q E0) ⟨fun pins s σ H Q I h => wpAny_Call_Name_kw (ld_glob I hg hm (PySem.W.callWith_K (h₀ := X.base) I.ok.mod.kin kp (thn (ha.1.run pos pins s σ H _ I h) fun us s1 ⟨vs, H1, I1, r, q⟩ =>
    ⟨I1.kIn, wpAny_call (run_fnR F (hr.mono hk) pass0 I1 r q)⟩) he hpl) hdb)⟩ fun σ H Q h => callV_run hn ha.2 h
theorem j_callV0 {x : Str} {kg : Nat} {fn : FnS} (Cg : CalV X.prog X.w X.K X.mg X.base x kg fn) (hr : Room k X.A) (hk : kg ≤ k) (hg : Gl X x := by rfl) (hdb : (x == ("__debug__" : Str)) = false := by decide) : JE X C (.Call (.Name x p) [] [] pos) (eCallV fn aNil) := by
  obtain ⟨fa, F, hm, kp⟩ := Cg
  refine pe_weak (t := fun σ H Q => spV X.K fn [] H Q E0) ⟨fun pins s σ H Q I h => wpAny_Call_Name_kw (ld_glob I hg hm (PySem.W.callWith_K0 I.kIn kp (wpAny_call (run_fnR (us := []) F (hr.mono hk) pass0 I .nil h))) hdb)⟩ fun σ H Q h => ?_
  have z := callV_run (n := 0) (by decide) (fun env ds env' e => by simp only [aNil] at e; cases e; rfl) h
  obtain ⟨F, env, ds, env', hd, he, q⟩ := z
  simp only [aNil] at he
  cases he
  exact q F H [] Stp.refl hd .nil
end
end J
/-! JA: comprehensions with two fors. -/
namespace J
open PySem L2
/-- a step that may change the list at dl -/
structure StpX (dl : Addr) (F : Hp) (env : Env) (σ : St) (H : Hp) (F' : Hp) (env' : Env) (H' : Hp) : Prop where
  exF : Same F F'
  tmp : ∀ a o, F a = none → H a = some o → NotOw env σ H a → a ≠ dl → F' a = none ∧ H' a = some o
  sub : ∀ (i : Nat) (ds : List D), env'[i]? = some (.ow ds) → ∃ es, env[i]? = some (.ow es)
  old : ∀ a, H' a = none → H a = none
  subN : ∀ (i : Nat) (o : Ob), env'[i]? = some (.nt o) → ∃ o', env[i]? = some (.nt o') ∧ ∀ (v : V) (a : Addr), σ[i]? = some (some v) → a ∈ foot H' o v → H a ≠ none → a ∈ foot H o' v
theorem NotOw.stpX {dl : Addr} {F : Hp} {env : Env} {σ : St} {H F' : Hp} {env' : Env} {H' : Hp} {a : Addr} (n : NotOw env σ H a) (s : StpX dl F env σ H F' env' H') (ha : H a ≠ none) : NotOw env' σ H' a := ⟨fun j ds h => by
  obtain ⟨es, h'⟩ := s.sub j ds h
  exact n.ow j es h', fun j o v h1 h2 m => by
  obtain ⟨o', h3, h4⟩ := s.subN j o h1
  exact n.nt j o' v h3 h2 (h4 v a h2 m ha)⟩
section
variable {K : Fr} {C : FC} {dl : Addr} {F F1 F2 : Hp} {env env1 env2 : Env} {σ σ' : St} {H H1 H2 : Hp}
theorem StpX.refl : StpX dl F env σ H F env H := ⟨Same.refl F, fun a o h1 h2 _ _ => ⟨h1, h2⟩, fun i ds h => ⟨ds, h⟩, fun _ h => h, fun i o h => ⟨o, h, fun v a _ m _ => m⟩⟩
theorem StpX.of (s : Stp F env σ H F1 env1 H1) : StpX dl F env σ H F1 env1 H1 := ⟨s.exF, fun a o h1 h2 n _ => s.tmp a o h1 h2 n, s.sub, s.old, s.subN⟩
theorem StpX.trans (a : StpX dl F env σ H F1 env1 H1) (b : StpX dl F1 env1 σ H1 F2 env2 H2) : StpX dl F env σ H F2 env2 H2 :=
  ⟨a.exF.trans b.exF, fun x o h1 h2 n e => by
    obtain ⟨q1, q2⟩ := a.tmp x o h1 h2 n e
    exact b.tmp x o q1 q2 (n.stpX a (some_ne h2)) e, fun i ds h => by
    obtain ⟨es, h1⟩ := b.sub i ds h
    exact a.sub i es h1, fun x h => a.old x (b.old x h), fun i o h1 => by
    obtain ⟨o', h3, h4⟩ := b.subN i o h1
    obtain ⟨o2, h5, h6⟩ := a.subN i o' h3
    exact ⟨o2, h5, fun v x z m hx => h6 v x z (h4 v x z m fun w => hx (a.old x w)) hx⟩⟩
theorem StpX.less {env3 : Env} (h : StpX dl F env σ H F1 env1 H1) (hs : Less env1 env3) : StpX dl F env σ H F1 env3 H1 :=
  ⟨h.exF, h.tmp, fun i ds q => by
    obtain ⟨es, q'⟩ := hs.ow i ds q
    exact h.sub i es q', h.old, fun i o q => h.subN i o (hs.nt i o q)⟩
theorem StpX.sig (h : StpX dl F env σ H F1 env1 H1) (he : Agr env σ σ') : StpX dl F env σ' H F1 env1 H1 :=
  ⟨h.exF, fun a o q1 q2 n => h.tmp a o q1 q2 (n.sig he.symm), h.sub, h.old, fun i o q => by
    obtain ⟨o', h1, h2⟩ := h.subN i o q
    exact ⟨o', h1, fun v a z => h2 v a (by rw [← he.nt i o' h1]; exact z)⟩⟩
theorem StpX.more {env0 : Env} (h : StpX dl F env σ H F1 env1 H1) (hs : NoNew env0 env) : StpX dl F env0 σ H F1 env1 H1 :=
  ⟨h.exF, fun a o q1 q2 n => h.tmp a o q1 q2 (n.less hs.less), fun i ds q => by
    obtain ⟨es, q'⟩ := h.sub i ds q
    exact ⟨es, hs.ow i es q'⟩, h.old, fun i o q => by
    obtain ⟨o', q', m'⟩ := h.subN i o q
    exact ⟨o', hs.nt i o' q', m'⟩⟩
theorem Stp.thenX (a : Stp F env σ H F1 env1 H1) (b : StpX dl F1 env1 σ H1 F2 env2 H2) (hd : H dl = none) : Stp F env σ H F2 env2 H2 :=
  ⟨a.exF.trans b.exF, fun x o h1 h2 n => by
    obtain ⟨q1, q2⟩ := a.tmp x o h1 h2 n
    exact b.tmp x o q1 q2 (n.stp a (some_ne h2)) (ne_of_none h2 hd), fun i ds h => by
    obtain ⟨es, h1⟩ := b.sub i ds h
    exact a.sub i es h1, fun x h => a.old x (b.old x h), fun i o h1 => by
    obtain ⟨o', h3, h4⟩ := b.subN i o h1
    obtain ⟨o2, h5, h6⟩ := a.subN i o' h3
    exact ⟨o2, h5, fun v x z m hx => h6 v x z (h4 v x z m fun w => hx (a.old x w)) hx⟩⟩
theorem StpX.write {o : HO} (s : StpX dl F env σ H F1 env1 H1) (nO : NotOw env1 σ H1 dl) : StpX dl F env σ H F1 env1 (upd H1 dl o) :=
  ⟨s.exF, fun a u z1 z2 n e => by
    obtain ⟨p1, p2⟩ := s.tmp a u z1 z2 n e
    exact ⟨p1, by rw [upd_ne e]; exact p2⟩, s.sub, fun b z => s.old b (upd_none z).2, fun i u z => by
    obtain ⟨o', z1, z2⟩ := s.subN i u z
    exact ⟨o', z1, fun w b z3 m => z2 w b z3 (by rw [nO.foot z z3] at m; exact m)⟩⟩
/-- the state between two turns: dn has gone into the list at dl -/
structure AtL (K : Fr) (C : FC) (dl : Addr) (er : List Nat) (σ : St) (F : Hp) (env : Env) (H : Hp) (dn : List D) : Prop where
  hd : Hd K C F env σ H
  off : Off er env
  hF : F dl = none
  h0 : C.H0 dl = none
  nO : NotOw env σ H dl
  hA : ∃ acc, H dl = some (.lst acc) ∧ RpA F acc dn
/-- a loop of a comprehension, from a list that may have items -/
theorem lc_loop {g : G} {ft : M Bool} {fe : M RV} {er mp : List Nat} {J : L2.It} {ds ys dn : List D} {env' : Env} (hc : C.mp = mp) (hm : ∀ i ∈ er, i ∉ mp) (hn : ∀ d env env', g d env = some env' → NoNew env env')
    (at0 : AtL K C dl er σ F env H dn) (wk : Wk K C F J ds) (hr : runLc g ft fe er ds env = some (ys, env')) (hz : dn.length + ys.length ≤ limit) {Nx : Hp → Prop} (q : ∀ F' H', AtL K C dl er σ F' env' H' (dn ++ ys) → StpX dl F env σ H F' env' H' → Nx H') :
    ∃ W : Nat → Nat → Hp → Prop, (∃ m, W 0 m H) ∧ ∀ i m H, W i m H → (J.stop i H ∧ Nx H) ∨ (J.go i H ∧ ∃ Nx1 : Hp → Prop, (∀ H', Nx1 H' → ∃ m', m' < m ∧ W (i + 1) m' H') ∧
      ∀ x H', J.yld i H x H' → tgJ K C er g x (wipe σ er) H' fun σ3 H5 => wipe σ3 er = wipe σ er ∧ ttJ K C ft σ3 H5 fun b H6 => if b = true then tJ K C fe σ3 H6 fun y H7 => ∃ acc, H7 dl = some (.lst acc) ∧ acc.length < sizeLine ∧ Nx1 (upd H7 dl (.lst (acc ++ [y]))) else Nx1 H6) := by
  subst hc
  refine ⟨fun i m H' => m = ds.length - i ∧ i ≤ ds.length ∧ ∃ F2 env2 done rest, AtL K C dl er σ F2 env2 H' (dn ++ done) ∧ StpX dl F env σ H F2 env2 H' ∧ runLc g ft fe er (ds.drop i) env2 = some (rest, env') ∧ ys = done ++ rest, ⟨_, rfl, Nat.zero_le _, F, env, [], ys, by simpa using at0, StpX.refl, hr, rfl⟩, ?_⟩
  rintro i m H2 ⟨rfl, hi', F2, env2, done, rest, ⟨g2, off, hF, h0, nO, acc, hA, rA⟩, s2, h3, hy⟩
  have offO : ∀ {env3 : Env}, NoNew env2 env3 → ∀ {σ3 : St}, (∀ i, i ∉ er → σ3[i]? = (wipe σ er)[i]?) → Agr env3 σ σ3 := fun {env3} nn {σ3} hs => off_agr off nn hs
  obtain ⟨w1, w2⟩ := wk F2 env2 σ H2 s2.exF g2
  rcases Nat.lt_or_ge i ds.length with hlt | hge
  · refine .inr ?_
    have hd' : ds[i]? = some ds[i] := List.getElem?_eq_getElem hlt
    rw [List.drop_eq_getElem_cons hlt] at h3
    obtain ⟨w3, w4⟩ := w2 i _ hd'
    simp only [runLc] at h3
    split at h3
    · cases h3
    rename_i e3 h4
    refine ⟨w3, fun H' => ∃ F2 env2 done rest, AtL K C dl er σ F2 env2 H' (dn ++ done) ∧ StpX dl F env σ H F2 env2 H' ∧ runLc g ft fe er (ds.drop (i + 1)) env2 = some (rest, env') ∧ ys = done ++ rest, fun H' z => ⟨ds.length - (i + 1), by omega, rfl, hlt, z⟩, fun x H' hy' => ?_⟩
    obtain ⟨F3, g3, s3, r3⟩ := w4 x H' hy'
    obtain ⟨hF3, hA3⟩ := s3.tmp dl _ hF hA nO
    have g3w : Hd K C F3 env2 (wipe σ er) H' := g3.sig (wipe_length σ er) off (fun i hi => wipe_out hi) hm
    refine ⟨F3, env2, _, e3, g3w, r3, h4, fun σ4 l4 k4 g4 => ⟨(wipe_eq l4 k4).trans (wipe_eq (wipe_length σ er) fun i hi => wipe_out hi), ?_⟩⟩
    have nn := hn _ _ _ h4
    have o4 := offO nn k4
    have nO3 := nO.stp s3 (some_ne hA); have nO4 : NotOw e3 σ4 H' dl := (nO3.less nn.less).sig o4
    split at h3
    · cases h3
    · rename_i e4 h5
      refine ttJ.go g4 h5 fun F5 H5 s5 g5 => ?_
      rw [if_neg Bool.false_ne_true]
      obtain ⟨hF5, hA5⟩ := s5.tmp dl _ hF3 hA3 nO4
      have s5' : Stp F3 env2 σ H' F5 e4 H5 := (s5.sig o4.symm).more nn
      have g5w : Hd K C F5 (ers er e4) σ H5 := (g5.ers er).sig (by rw [l4, wipe_length]) off_ers (fun i hi => by rw [k4 i hi, wipe_out hi]) hm
      refine ⟨F5, ers er e4, done, rest, ⟨g5w, off_ers, hF5, h0, (nO3.stp s5' (some_ne hA3)).less ers_less, acc, hA5, (rA.up s3.exF).up s5.exF⟩, ((s2.trans (.of s3)).trans (.of s5')).less ers_less, h3, hy⟩
    · rename_i e4 h5
      split at h3
      · cases h3
      rename_i x' e5 h6
      split at h3
      · cases h3
      rename_i y' e6 h7
      split at h3
      · cases h3
      rename_i ys' e7 h8
      cases h3
      refine ttJ.go g4 h5 fun F5 H5 s5 g5 => ?_
      rw [if_pos rfl]
      refine tJ.go g5 h6 fun F6 H6 v s6 g6 r6 => ?_
      obtain ⟨F7, s7, g7, r7, _⟩ := g6.fzv g5 s6 r6 h7
      obtain ⟨hF5, hA5⟩ := s5.tmp dl _ hF3 hA3 nO4
      have nO5 : NotOw e4 σ4 H5 dl := nO4.stp s5 (some_ne hA3)
      obtain ⟨hF7, hA7⟩ := s7.tmp dl _ hF5 hA5 nO5
      have s57 := s5.trans s7
      have s57' : Stp F3 env2 σ H' F7 e6 H6 := (s57.sig o4.symm).more nn
      have hz' : acc.length < sizeLine := by
        rw [rA.length, List.length_append, sizeLine_eq]
        rw [hy, List.length_append, List.length_cons] at hz
        unfold limit at hz
        omega
      refine ⟨acc, hA7, hz', ?_⟩
      have g7w : Hd K C F7 (ers er e6) σ H6 := (g7.ers er).sig (by rw [l4, wipe_length]) off_ers (fun i hi => by rw [k4 i hi, wipe_out hi]) hm
      have nO7 : NotOw (ers er e6) σ H6 dl := (nO3.stp s57' (some_ne hA3)).less ers_less
      refine ⟨F7, ers er e6, done ++ [y'], ys', ⟨g7w.grow hF7 h0 nO7, off_ers, hF7, h0, nO7.wr nO7, acc ++ [v], upd_same, ?_⟩, ?_, h8, by rw [hy, List.append_assoc]; rfl⟩
      · rw [← List.append_assoc]
        exact ((((rA.up s3.exF).up s5.exF).up s7.exF)).append (.cons r7 .nil)
      · exact (((s2.trans (.of s3)).trans (.of s57')).less ers_less).write nO7
  · refine .inl ⟨w1 i hge, ?_⟩
    rw [List.drop_eq_nil_of_le hge] at h3
    simp only [runLc] at h3
    cases h3
    rw [List.append_nil] at hy
    subst hy
    exact q F2 H2 ⟨g2, off, hF, h0, nO, acc, hA, rA⟩ s2
end
section
variable {X : Cx} {C : FC} {fe : M RV} {ft ft1 : M Bool} {e : Expr}
/-- the reading of a comprehension with two fors -/
theorem lc2_run {K : Fr} {er er1 : List Nat} {g g1 : G} {it it1 : M (List D)} {σ : St} {H : Hp} {Q : VK} {mp : List Nat} (hc : C.mp = mp) (hm : ∀ i ∈ er, i ∉ mp) (hs : ∀ i ∈ er1, i ∈ er) (hn : ∀ d env env', g d env = some env' → NoNew env env') (hn1 : ∀ d env env', g1 d env = some env' → NoNew env env')
    (h : tJ K C (eLc2 er er1 g it ft g1 it1 ft1 fe) σ H Q) : tLc2 (tiJ K C it) (tgJ K C er g) (ttJ K C ft) (tiJ K C it1) (tgJ K C er1 g1) (ttJ K C ft1) (tJ K C fe) er er1 σ H Q := by
  have hm1 : ∀ i ∈ er1, i ∉ mp := fun i hi => hm i (hs i hi)
  obtain ⟨F, env, rv, env', hd, he, q⟩ := h
  simp only [eLc2] at he
  split at he
  · cases he
  rename_i ds e1 h1
  split at he
  · cases he
  rename_i ys e2 h2
  split at he
  · rename_i hlen
    cases he
    refine ⟨F, env, ds, e1, hd, h1, fun F1 H1 J s1 g1' wk dl hD => ?_⟩
    have hD0 : H dl = none := s1.old dl hD
    refine ⟨fun i m H' => m = ds.length - i ∧ i ≤ ds.length ∧ ∃ F2 env2 done rest, AtL K C dl er σ F2 env2 H' done ∧ Same F1 F2 ∧ Stp F env σ H F2 env2 H' ∧ runLc2 g ft it1 g1 ft1 fe er er1 (ds.drop i) env2 = some (rest, env') ∧ ys = done ++ rest,
      ⟨_, rfl, Nat.zero_le _, F1, ers er e1, [], ys, ⟨(g1'.ers er).new hD, off_ers, Same.none g1'.ex hD, hd.old dl hD0, ?_, [], upd_same, .nil⟩, Same.refl F1, ?_, h2, rfl⟩, ?_⟩
    · exact ((g1'.ers er).notNew hD).up (g1'.ers er) hD
    · exact (s1.trans (Stp.new g1' hD)).less ers_less
    · rintro i m H2 ⟨rfl, hi', F2, env2, done, rest, at2, sm, s2, h3, hy⟩
      have at2' := at2
      obtain ⟨g2, off, hF, h0, nO, acc, hA, rA⟩ := at2'
      have offO : ∀ {env3 : Env}, NoNew env2 env3 → ∀ {σ3 : St}, (∀ i, i ∉ er → σ3[i]? = (wipe σ er)[i]?) → Agr env3 σ σ3 := fun {env3} nn {σ3} hs => off_agr off nn hs
      obtain ⟨w1, w2⟩ := wk F2 env2 σ H2 sm g2
      rcases Nat.lt_or_ge i ds.length with hlt | hge
      · refine .inr ?_
        have hd' : ds[i]? = some ds[i] := List.getElem?_eq_getElem hlt
        rw [List.drop_eq_getElem_cons hlt] at h3
        obtain ⟨w3, w4⟩ := w2 i _ hd'
        simp only [runLc2] at h3
        split at h3
        · cases h3
        rename_i e3 h4
        refine ⟨w3, fun H' => ∃ F2 env2 done rest, AtL K C dl er σ F2 env2 H' done ∧ Same F1 F2 ∧ Stp F env σ H F2 env2 H' ∧ runLc2 g ft it1 g1 ft1 fe er er1 (ds.drop (i + 1)) env2 = some (rest, env') ∧ ys = done ++ rest, fun H' z => ⟨ds.length - (i + 1), by omega, rfl, hlt, z⟩, fun x H' hy' => ?_⟩
        obtain ⟨F3, g3, s3, r3⟩ := w4 x H' hy'
        obtain ⟨hF3, hA3⟩ := s3.tmp dl _ hF hA nO
        have g3w : Hd K C F3 env2 (wipe σ er) H' := g3.sig (wipe_length σ er) off (fun i hi => wipe_out hi) (by rw [hc]; exact hm)
        refine ⟨F3, env2, _, e3, g3w, r3, h4, fun σ4 l4 k4 g4 => ⟨(wipe_eq l4 k4).trans (wipe_eq (wipe_length σ er) fun i hi => wipe_out hi), ?_⟩⟩
        have nn := hn _ _ _ h4
        have o4 := offO nn k4
        have nO3 := nO.stp s3 (some_ne hA); have nO4 : NotOw e3 σ4 H' dl := (nO3.less nn.less).sig o4
        -- back to the state between two turns
        have back : ∀ {F5 : Hp} {e5 : Env} {H5 : Hp} {dn : List D}, Hd K C F5 e5 σ4 H5 → StpX dl F3 e3 σ4 H' F5 e5 H5 → F5 dl = none → (∃ acc, H5 dl = some (.lst acc) ∧ RpA F5 acc dn) → AtL K C dl er σ F5 (ers er e5) H5 dn ∧ Stp F env σ H F5 (ers er e5) H5 := fun {F5 e5 H5 dn} g5 s5 hF5 hA5 => by
          have s5' : StpX dl F3 env2 σ H' F5 e5 H5 := (s5.sig o4.symm).more nn
          refine ⟨⟨(g5.ers er).sig (by rw [l4, wipe_length]) off_ers (fun i hi => by rw [k4 i hi, wipe_out hi]) (by rw [hc]; exact hm), off_ers, hF5, h0, (nO3.stpX s5' (some_ne hA3)).less ers_less, hA5⟩, ?_⟩
          · exact ((s2.trans s3).thenX s5' hD0).less ers_less
        split at h3
        · cases h3
        · rename_i e4 h5
          refine ttJ.go g4 h5 fun F5 H5 s5 g5 => ?_
          rw [if_neg Bool.false_ne_true]
          obtain ⟨hF5, hA5⟩ := s5.tmp dl _ hF3 hA3 nO4
          obtain ⟨b1, b2⟩ := back g5 (.of s5) hF5 ⟨acc, hA5, (rA.up s3.exF).up s5.exF⟩
          exact ⟨F5, ers er e4, done, rest, b1, (sm.trans s3.exF).trans s5.exF, b2, h3, hy⟩
        · rename_i e4 h5
          split at h3
          · cases h3
          rename_i xs e5 h6
          split at h3
          · cases h3
          rename_i ys1 e6 h7
          split at h3
          · cases h3
          rename_i zs e7 h8
          cases h3
          refine ttJ.go g4 h5 fun F5 H5 s5 g5 => ?_
          rw [if_pos rfl]
          obtain ⟨hF5, hA5⟩ := s5.tmp dl _ hF3 hA3 nO4
          have nO5 : NotOw e4 σ4 H5 dl := nO4.stp s5 (some_ne hA3)
          refine ⟨F5, e4, xs, e5, g5, h6, fun F6 H6 J1 s6 g6 wk1 => ?_⟩
          obtain ⟨hF6, hA6⟩ := s6.tmp dl _ hF5 hA5 nO5
          have nO6 : NotOw e5 σ4 H6 dl := nO5.stp s6 (some_ne hA5)
          have s56 := s5.trans s6
          have at6 : AtL K C dl er1 σ4 F6 (ers er1 e5) H6 done := ⟨g6.ers er1, off_ers, hF6, h0, nO6.less ers_less, acc, hA6, ((rA.up s3.exF).up s5.exF).up s6.exF⟩
          refine lc_loop hc hm1 hn1 at6 wk1 h7 ?_ fun F7 H7 at7 s7 => ?_
          · rw [hy, List.length_append, List.length_append] at hlen
            omega
          · obtain ⟨g7, _, hF7, _, _, hA7⟩ := at7
            have s67 : StpX dl F3 e3 σ4 H' F7 e6 H7 := ((StpX.of (dl := dl) s56).less ers_less).trans s7
            obtain ⟨b1, b2⟩ := back g7 s67 hF7 hA7
            exact ⟨F7, ers er e6, done ++ ys1, zs, b1, ((sm.trans s3.exF).trans s56.exF).trans s7.exF, b2, h8, by rw [hy, List.append_assoc]⟩
      · refine .inl ⟨w1 i hge, ?_⟩
        rw [List.drop_eq_nil_of_le hge] at h3
        simp only [runLc2] at h3
        cases h3
        rw [List.append_nil] at hy
        subst hy
        exact q F2 H2 _ s2 g2 ⟨dl, acc, rfl, hA, hF, rA, hD0, nO⟩
  · cases he
/-- h by pe_lc2 -/
theorem je_lc2 {er er1 mp : List Nat} {g g1 : G} {it it1 : M (List D)} (hc : C.mp = mp) (hm : ∀ i ∈ er, i ∉ mp) (hs : ∀ i ∈ er1, i ∈ er) (hn : ∀ d env env', g d env = some env' → NoNew env env') (hn1 : ∀ d env env', g1 d env = some env' → NoNew env env')
    (h : PE X e (tLc2 (tiJ X.K C it) (tgJ X.K C er g) (ttJ X.K C ft) (tiJ X.K C it1) (tgJ X.K C er1 g1) (ttJ X.K C ft1) (tJ X.K C fe) er er1)) : JE X C e (eLc2 er er1 g it ft g1 it1 ft1 fe) := pe_weak h fun σ H Q z => lc2_run hc hm hs hn hn1 z
theorem lc2_ps {st : Stmt} {i : Nat} {er er1 mp : List Nat} {g g1 : G} {it it1 : M (List D)} (hc : C.mp = mp) (hm : ∀ i ∈ er, i ∉ mp) (hs : ∀ i ∈ er1, i ∈ er) (hn : ∀ d env env', g d env = some env' → NoNew env env') (hn1 : ∀ d env env', g1 d env = some env' → NoNew env env')
    (h : PS X st (tAsg (tLc2 (tiJ X.K C it) (tgJ X.K C er g) (ttJ X.K C ft) (tiJ X.K C it1) (tgJ X.K C er1 g1) (ttJ X.K C ft1) (tJ X.K C fe) er er1) (gName i))) : PS X st (tAsg (tJ X.K C (eLc2 er er1 g it ft g1 it1 ft1 fe)) (gName i)) := ps_weak h fun D' σ H z => lc2_run hc hm hs hn hn1 z
end
end J
/-! JK: sorted of a tuple. -/
namespace JT
open PySem PyProof.Rows Srt SrtO
section
variable {prog : Program} {w : World} {A : Around} {E : Value → Shared → Prop} {s : Shared}
/-- the items of a tuple, gathered in a new list -/
theorem gather {t : Addr} {us : List Value} {Q : List Value → Shared → Prop} {ob : Obj} {m : Nat} (g : s.heap.get? t = some ob) (gc : ob.cls = .type "tuple") (gd : ob.data = .seq us.toArray m) (hz : us.length ≤ sizeLine)
    (q : Q us { s with heap := (s.heap.push (seqObj "list" #[] 0)).update s.heap.objs.size (Obj.mapSeq (· ++ us.toArray)) }) : wpAny (model prog w) A (collect (.ref t)) Q E s := by
  unfold collect; refine wpAny_bind (wpAny_runValue (codeAny_builtin entry_proto_collect' ?_))
  show wpAny _ _ (do again (.builtin "list.__iadd__" ⟨[← newList [], .ref t], []⟩)) _ _ s
  refine wpAny_bind (wpAny_newList (wpAny_pure ⟨Code.quiet_builtin _ (by decide +kernel), codeAny_builtin entry_list_iadd' (?_ : wpAny _ _ (Builtin.List.listExtendWith (.ref s.heap.objs.size) (.ref t) (.ref s.heap.objs.size)) _ _ { s with heap := s.heap.push (seqObj "list" #[] 0) })⟩))
  have g' : (s.heap.push (seqObj "list" #[] 0)).get? t = some ob := Heap.get?_push_of_some _ g
  have new : (s.heap.push (seqObj "list" #[] 0)).get? s.heap.objs.size = some (seqObj "list" #[] 0) := Heap.get?_push_size _ rfl
  have ht : (Value.type "tuple" == Value.type "tuple") = true := by rfl
  unfold Builtin.List.listExtendWith; refine wpAny_bind (wpAny_typeOf (T := "tuple") ⟨ob, g', gc⟩ ?_)
  rw [if_pos (by rw [ht, Bool.or_true])]
  refine wpAny_bind (listItems_at g' gd (wpAny_bind (listItems_at (xs := #[]) (n := 0) new rfl ?_)))
  rw [if_neg (by simp)]
  refine wpAny_bind (listUpdate_at (xs := #[]) (n := 0) new rfl (wpAny_pure ?_) (Nat.zero_le _) (by show (#[] ++ us.toArray).size ≤ sizeLine + 1; rw [Array.size_append, List.size_toArray]; simp; omega))
  show wpAny (model prog w) A (do
      match (← load s.heap.objs.size).data with
      | .seq xs _ => pure xs.toList
      | _ => unsupported "internal:collect") Q E { s with heap := (s.heap.push (seqObj "list" #[] 0)).update s.heap.objs.size (Obj.mapSeq (· ++ us.toArray)) }
  refine wpAny_bind (wpAny_load (get?_update_seq new _) (?_ : wpAny _ _ (pure ((#[] : Array Value) ++ us.toArray).toList) Q E _))
  have e : ((#[] : Array Value) ++ us.toArray).toList = us := by simp
  rw [e]; exact wpAny_pure q
theorem sorted_tup {t : Addr} {us : List Value} {ltv : Value → Value → Bool} {Q : Value → Shared → Prop} {ob : Obj} {m : Nat} (O : Swo ltv) (g : s.heap.get? t = some ob) (gc : ob.cls = .type "tuple") (gd : ob.data = .seq us.toArray m) (hz : us.length ≤ sizeLine)
    (hS : 2 ≤ us.length → ∀ (h₁ : Heap) (a : Addr), h₁.get? a = some (seqObj "list" us.toArray 0) → (∀ b o, s.heap.get? b = some o → b ≠ a ∧ h₁.get? b = some o) → SortableO prog w A.in1.in1 { s with heap := h₁ } a us ltv)
    (q : ∀ out : List Value, Srtd ltv out → Stb ltv out us → Q (.ref (s.heap.objs.size + 1)) { s with heap := sortedAll s.heap us out.toArray }) :
    wpAny (model prog w) A (call (.builtin "sorted") [.ref t]) Q E s := by
  refine Calls.call_function_entry kind_sorted plain_sorted entry_sorted (args_sorted1 _) (?_ : wpAny _ _ (Builtin.«sorted» _) _ _ _)
  unfold Builtin.«sorted»; refine wpAny_bind (m := checkCount "sorted" 1 1 _) (wpAny_pure (wpAny_bind (gather g gc gd hz (wpAny_bind (wpAny_newList ?_ hz)))))
  generalize hM : ((s.heap.push (seqObj "list" #[] 0)).update s.heap.objs.size (Obj.mapSeq (· ++ us.toArray))) = M
  have sz : M.objs.size = s.heap.objs.size + 1 := by rw [← hM, Heap.size_update, size_push']
  have at1 : (M.push (seqObj "list" us.toArray 0)).get? (s.heap.objs.size + 1) = some (seqObj "list" us.toArray 0) := by rw [← sz]; exact Heap.get?_push_size _ rfl
  have keep : ∀ b o, s.heap.get? b = some o → b ≠ s.heap.objs.size + 1 ∧ (M.push (seqObj "list" us.toArray 0)).get? b = some o := fun b o z => by
    have lt : b < s.heap.objs.size := Heap.lt_size z
    refine ⟨Nat.ne_of_lt (Nat.lt_succ_of_lt lt), Heap.get?_push_of_some _ ?_⟩
    rw [← hM, Heap.get?_update_ne _ _ _ _ (Nat.ne_of_lt lt)]; exact Heap.get?_push_of_some _ z
  show wpAny _ _ _ _ _ { s with heap := M.push (seqObj "list" us.toArray 0) }
  rw [sz]
  refine wpAny_bind (wpAny_holding (wpAny_call_entry slot_list_sort ⟨_, at1, rfl⟩ entry_list_sort (list_sort_ord O at1 hz (fun h2 => hS h2 _ _ at1 keep) fun out hs hb => ⟨_, rfl, wpAny_pure ⟨_, rfl, ?_⟩⟩) (args_list_sort _)))
  have := q out hs hb
  unfold sortedAll at this
  rw [hM] at this
  exact this
end
end JT
namespace J
open PySem L2 PyProof.Rows
section
variable {X : Cx} {C : FC} {f fa : M RV} {a e : Expr} {p pos : Pos}
def rSortT : List V → Hp → VK → Prop := fun vs H Q => ∃ (a : Addr) (ns : List Int), vs = [V.ref a] ∧ Tz H a (ns.map V.int) ∧ ∀ (ns' : List Int) (p : Addr), ns'.Perm ns → ns'.Pairwise (· ≤ ·) → H p = none → Q (.ref p) (upd H p (.lst (ns'.map V.int)))
theorem cr_sortT : CallR X (.builtin "sorted") rSortT := by
  intro pins s σ H xs us Q I r h
  obtain ⟨a, ns, rfl, ⟨o, ha, hd⟩, q⟩ := h
  obtain ⟨he, hz, its, rv, o2, e2, c2, m, d2⟩ := (show ObjOk X.prog X.w H s.heap a (.frz o (.tup (ns.map V.int))) from I.hok a _ ha)
  rw [he] at e2
  cases e2
  rw [Vals.ref1 r]
  have hi := rv.ints
  refine JT.sorted_tup SrtO.swo_int he c2 d2 (by rw [← rv.length]; exact hz) (fun h2 h₁ a' _ _ => SrtO.ints_sortable hi h2) fun out h1 h2 => ?_
  obtain ⟨k1, k2, k3⟩ := SrtO.ints_out hi h1 h2
  obtain ⟨ep, he'⟩ := PyProof.Rows.sortedAll_at s.heap its out.toArray
  have hl : ((out.map SrtO.iv).map V.int).length ≤ sizeLine := by rw [List.length_map, k2.length_eq]; rw [List.length_map] at hz; exact hz
  refine ⟨.ref _, upd H (s.heap.objs.size + 1) (.lst ((out.map SrtO.iv).map V.int)), ?_, rfl, q _ _ k2 k3 (I.hok.fresh (Nat.le_succ _))⟩
  exact I.laid (t' := s.toks) (fun _ _ => PyProof.Rows.sortedAll_old) (Nat.le_succ _) ⟨hl, out, ep, vals_of_ints k1, he'⟩
end
end J
/-! JB: reversed, sorted. -/
namespace J
open PySem L2
theorem srt_uniq {l m : List Int} (h1 : m.Perm l) (h2 : m.Pairwise (· ≤ ·)) : m = srt l := by
  have h3 : (srt l).Pairwise (· ≤ ·) := by
    have := List.pairwise_mergeSort (le := fun a b : Int => decide (a ≤ b)) (fun a b c h1 h2 => by simp at *; omega) (fun a b => by simp; omega) l
    exact this.imp fun h => by simpa using h
  exact List.Perm.eq_of_pairwise (fun a b _ _ x y => Int.le_antisymm x y) h2 h3 (h1.trans (List.mergeSort_perm _ _).symm)
section
variable {X : Cx} {C : FC} {f fa : M RV} {a e : Expr} {p pos : Pos}
theorem s_sorted : S1 (fun vs H Q => rSortedI X.K vs H Q ∨ rSortT vs H Q) sortedD := fun F H x d rt Q s v q k => by
  cases d <;> simp only [sortedD] at q <;> try (cases q)
  case list ds =>
    split at q
    · rename_i ns h
      cases q
      have e := asInt_of h
      subst e
      obtain ⟨l, vs, rfl, h1, h2⟩ := v
      have e := h2.ints
      subst e
      refine .inl ⟨l, ns, rfl, SqL.of h1, fun m t hp ho ht => ?_⟩
      rw [srt_uniq hp ho]
      exact k t _ ht (RpA.ofInts _)
    · cases q
  case tuple ds =>
    split at q
    · rename_i ns h
      cases q
      have e := asInt_of h
      subst e
      have v' : Rp F x (.tuple (ns.map PyData.int)) := v
      cases v' with
      | tup h1 h2 =>
        have e := h2.ints
        subst e
        refine .inr ⟨_, ns, rfl, h1.up s, fun m t hp ho ht => ?_⟩
        rw [srt_uniq hp ho]
        exact k t _ ht (RpA.ofInts _)
    · cases q
theorem j_sorted (hm : X.mg "sorted" = none) (ha : JE X C a fa) (hg : Gl X "sorted" := by rfl) (hs : starEach [a] X.env = (false, eval a X.env) :: starEach [] X.env := by rfl) : JE X C (.Call (.Name "sorted" p) [a] [] pos) (eOp1 sortedD fa) :=
  je_b s_sorted (pe_callB (cr_sortedI.or cr_sortT) hg hm bt_sorted (pa_cons ha pa_nil hs) (he := hs))
theorem rev_get {vs : List V} {i : Nat} : vs.reverse[i]? = if i < vs.length then vs[vs.length - 1 - i]? else none := by
  by_cases h : i < vs.length
  · rw [if_pos h, List.getElem?_reverse h]
  · rw [if_neg h, List.getElem?_eq_none (by rw [List.length_reverse]; omega)]
theorem wk_rl {K : Fr} {F0 : Hp} {a : Addr} {vs : List V} {ds : List D} (h : ∀ F env σ H, Same F0 F → Hd K C F env σ H → H a = some (.lst vs)) (r : RpA F0 vs ds) : Wk K C F0 (Itv K a vs.length) ds.reverse := fun F env σ H s g => by
  have ha := h F env σ H s g
  have rr := r.reverse
  refine ⟨fun i hi => by rw [← rr.length, List.length_reverse] at hi; exact hi, fun i d hd => ?_⟩
  obtain ⟨v, h1, h2⟩ := rr.getd hd
  rw [rev_get] at h1
  split at h1
  · rename_i hlt
    refine ⟨⟨hlt, vs, v, SqL.of ha, h1⟩, fun x H' ⟨e, hy⟩ => ?_⟩
    subst e
    have e2 := hy vs (SqL.of ha)
    rw [h1] at e2; cases e2
    exact ⟨F, g, Stp.refl, h2.up s⟩
  · cases h1
theorem wk_rt {K : Fr} {F0 : Hp} {a : Addr} {vs : List V} {ds : List D} (h : Tz F0 a vs) (r : RpA F0 vs ds) : Wk K C F0 (RT.ItvT K a vs.length) ds.reverse := fun F env σ H s g => by
  have ha := (h.up s).up g.ex
  have rr := r.reverse
  refine ⟨fun i hi => by rw [← rr.length, List.length_reverse] at hi; exact hi, fun i d hd => ?_⟩
  obtain ⟨v, h1, h2⟩ := rr.getd hd
  rw [rev_get] at h1
  split at h1
  · rename_i hlt
    refine ⟨⟨hlt, vs, v, ha.sq, h1⟩, fun x H' ⟨e, hy⟩ => ?_⟩
    subst e
    have e2 := hy vs (ha.sq)
    rw [h1] at e2; cases e2
    exact ⟨F, g, Stp.refl, h2.up s⟩
  · cases h1
theorem j_irev {tg : Expr} (hm : X.mg "reversed" = none) (he : JE X C e f) (hg : Gl X "reversed" := by rfl) (hs : starEach [e] X.env = (false, eval e X.env) :: starEach [] X.env := by rfl) : JI X C tg (.Call (.Name "reversed" p) [e] [] pos) (itRv f) := by
  refine pi_weak (RT.pi_revA hg hm he hs) fun σ H R ⟨F, env, ds, env', hd, hv, q⟩ => ?_
  simp only [itRv] at hv
  split at hv
  · cases hv
  rename_i ds' e1 h1
  cases hv
  rcases seq_it hd h1 with w | w
  · exact w _ fun F1 H1 a vs s1 g1 r1 hl => ⟨a, vs, rfl, .inl ⟨SqL.of (hl F1 _ _ H1 (Same.refl F1) g1), q F1 H1 _ s1 g1 (wk_rl hl r1)⟩⟩
  · exact w _ fun F1 H1 a vs s1 g1 r1 hl => ⟨a, vs, rfl, .inr ⟨(hl.up g1.ex).sq, q F1 H1 _ s1 g1 (wk_rt hl r1)⟩⟩
end
/-! ### names stored side by side -/
section
open PySem.Spec PyProof.Rows
variable {X : Cx} {C : FC}
def tPar3 (i j k : Nat) (ta : TA) : TS := fun D σ H => ta σ H fun vs H1 => ∃ u v w, vs = [u, v, w] ∧ D.nx (((σ.set i (some u)).set j (some v)).set k (some w)) H1
theorem ps_par3 {i j k : Nat} {x y z : Str} {a b c : Expr} {ta : TA} {px py pz pt pos : Pos} {kt k2 pt2} (hc : X.calm = true) (hN : X.N.Nodup) (hi : X.N[i]? = some x) (hj : X.N[j]? = some y) (hk : X.N[k]? = some z) (hij : i ≠ j) (hik : i ≠ k) (hjk : j ≠ k)
    (hx : X.env.scope.names.lookup x = some .local) (hy : X.env.scope.names.lookup y = some .local) (hz : X.env.scope.names.lookup z = some .local) (ha : PA X [a, b, c] ta)
    (hw : swappedStores [.Tuple [.Name x px, .Name y py, .Name z pz] kt pt] (.Tuple [a, b, c] k2 pt2) X.env = pure (some [x, y, z]))
    (hs : swapsWithSole [.Tuple [.Name x px, .Name y py, .Name z pz] kt pt] (.Tuple [a, b, c] k2 pt2) pos.line X.env = pure false := by rfl) :
    PS X (.Assign [.Tuple [.Name x px, .Name y py, .Name z pz] kt pt] (.Tuple [a, b, c] k2 pt2) pos) (tPar3 i j k ta) :=
  ⟨fun pins s σ H D I h => by
    rw [exec_Assign_arm]
    refine wpAny_bind (wpAny_standAt ?_)
    rw [hs]
    refine wpAny_bind (wpAny_pure ?_)
    rw [if_neg (by decide)]
    refine wpAny_bind (Tuple_ (thn (ha.run _ pins s σ H _ I h) fun us s1 ⟨vs, H1, J1, r1, u, v, w, e1, q1⟩ => ?_))
    subst e1
    obtain ⟨u1, u2, u3, rfl, ru, rv, rw'⟩ : ∃ u1 u2 u3, us = [u1, u2, u3] ∧ RelV u u1 ∧ RelV v u2 ∧ RelV w u3 := by
      cases r1 with
      | cons p q =>
        cases q with
        | cons p' q' =>
          cases q' with
          | cons p2 q2 =>
            cases q2
            exact ⟨_, _, _, rfl, p, p', p2⟩
    refine wpAny_newObj_type ?_ (by show 3 ≤ sizeLine; decide)
    have J2 : Inv X pins σ H1 { s1 with heap := s1.heap.push { cls := .type "tuple", data := .seq [u1, u2, u3].toArray } } := J1.kept (t' := s1.toks) fun b o e => Heap.get?_push_of_some _ e
    rw [hw]
    refine wpAny_bind (wpAny_pure ?_)
    show wpAny (model X.prog X.w) X.A (do rule "assign.swapped-stores"; let items ← unpackItems (.ref s1.heap.objs.size) 3 none; assignInOrder [fun v => bindName X.env z v, fun v => bindName X.env y v, fun v => bindName X.env x v] items.reverse; pure Flow.next) _ _ _
    refine wpAny_bind (wpAny_rule (wpAny_bind (unpackItems_tuple (items := #[u1, u2, u3]) (I.ok.hd hc) (IsTup.new s1.heap _) fun h' hx' => ?_)))
    have J3 := J2.kept (h' := h') (t' := s1.toks) fun b o e => hx' b o (Nat.ne_of_lt (Heap.lt_size e)) e
    show wpAny _ _ (assignInOrder [fun v => bindName X.env z v, fun v => bindName X.env y v, fun v => bindName X.env x v] [u3, u2, u1] >>= fun _ => pure Flow.next) _ _ _
    refine wpAny_bind (assignInOrder_cons (wpAny_bindName (store_ok J3 hN hk (.inl hz) rw' (fun s2 J4 => ?_) (.inr hz))))
    refine assignInOrder_cons (wpAny_bindName (store_ok J4 hN hj (.inl hy) rv (fun s3 J5 => ?_) (.inr hy)))
    refine assignInOrder_cons (wpAny_bindName (store_ok J5 hN hi (.inl hx) ru (fun s4 J6 => assignInOrder_nil (wpAny_pure ?_)) (.inr hx)))
    have e : ((σ.set k (some w)).set j (some v)).set i (some u) = ((σ.set i (some u)).set j (some v)).set k (some w) := by
      rw [List.set_comm _ _ (Ne.symm hij), List.set_comm _ _ (Ne.symm hik), List.set_comm _ _ (Ne.symm hjk)]
    rw [e] at J6
    exact ⟨_, H1, J6, q1⟩⟩
variable {st : Stmt} {es : M (List D)} {mp : List Nat}
theorem js_par2 {i j : Nat} (hc : C.mp = mp) (hm : i ∉ mp) (hm2 : j ∉ mp) (h : PS X st (tPar i j (taJ X.K C es))) : JS X C st (sPar [i, j] es) := by
  subst hc
  refine ps_weak h fun D' σ H ⟨F, env, fl, hd, he, q⟩ => ?_
  simp only [sPar] at he
  split at he
  · cases he
  rename_i ds e1 h1
  split at he
  · cases he
  rename_i e2 h2
  cases he
  refine taJ.go hd h1 fun F1 H1 vs s1 g1 r1 => ?_
  cases r1 with
  | nil => simp [setF] at h2
  | cons a1 t =>
  cases t with
  | nil => simp [setF] at h2
  | cons a2 t =>
  cases t with
  | cons _ _ => simp [setF] at h2
  | nil =>
    simp only [setF] at h2
    cases h2
    exact ⟨_, _, rfl, q F1 _ H1 s1.exF ((g1.asgF a1 hm).asgF a2 hm2)⟩
theorem js_par3 {i j k : Nat} (hc : C.mp = mp) (hm : i ∉ mp) (hm2 : j ∉ mp) (hm3 : k ∉ mp) (h : PS X st (tPar3 i j k (taJ X.K C es))) : JS X C st (sPar [i, j, k] es) := by
  subst hc
  refine ps_weak h fun D' σ H ⟨F, env, fl, hd, he, q⟩ => ?_
  simp only [sPar] at he
  split at he
  · cases he
  rename_i ds e1 h1
  split at he
  · cases he
  rename_i e2 h2
  cases he
  refine taJ.go hd h1 fun F1 H1 vs s1 g1 r1 => ?_
  cases r1 with
  | nil => simp [setF] at h2
  | cons a1 t =>
  cases t with
  | nil => simp [setF] at h2
  | cons a2 t =>
  cases t with
  | nil => simp [setF] at h2
  | cons a3 t =>
  cases t with
  | cons _ _ => simp [setF] at h2
  | nil =>
    simp only [setF] at h2
    cases h2
    exact ⟨_, _, _, rfl, q F1 _ H1 s1.exF (((g1.asgF a1 hm).asgF a2 hm2).asgF a3 hm3)⟩
end
end J
/-! JC: a list extended by a tuple. -/
namespace J
open PySem L2
open AutoSeq1
theorem ext_tuple (l : Addr) (xs : Array Value) (n : Nat) (b : Addr) (ys : Array Value) (m : Nat) (dct : Option Addr) (sl : Array (Option Value)) (h1 : ¬(!xs.isEmpty && Builtin.List.listTooLong (xs.size + ys.size)) = true) (h2 : xs.size ≤ sizeLine) (h3 : xs.size + ys.size ≤ sizeLine + 1) :
    Meets (Builtin.«list.extend» ⟨[.ref l, .ref b], []⟩) (fun _ R s => s.heap.get? l = some { cls := .type "list", dict := none, data := .seq xs n, slots := #[] } ∧
      s.heap.get? b = some { cls := .type "tuple", dict := dct, data := .seq ys m, slots := sl } ∧ R (.ok (.ret Value.none)) { s with heap := s.heap.update l (Obj.mapSeq fun x => x ++ ys), toks := s.toks }) :=
  .of_wp fun prog w A R s h => by
    obtain ⟨hp, g, d, tk, os⟩ := s
    obtain ⟨hl, hb, h⟩ := h
    have f1 := idx_int
    have f2 := sub_tuple_tuple
    have f3 := sub_list_list
    have f4 := sub_tuple_list
    have f5 := sub_list_tuple
    have hz : (xs ++ ys).size ≤ sizeLine + 1 := by rw [Array.size_append]; exact h3
    wp_walk using (wpAny_updateSeq hl rfl (hz := h2) (_hz' := hz)), wpAny_loadPart' hl, wpAny_loadPart' hb
    exact ⟨_, rfl, h⟩
def rExtT (K : Fr) : V → List V → Hp → VK → Prop := fun x vs H Q => ∃ l b xs zs, x = .ref l ∧ vs = [.ref b] ∧ H l = some (.lst xs) ∧ SqT K H b zs ∧ xs.length + zs.length ≤ sizeLine ∧ Q .non (upd H l (.lst (xs ++ zs)))
theorem mt_extT {X : Cx} : MtR X "list.extend" (rExtT X.K) := by
  intro pins s σ H x vs v us Q I rx rv h
  obtain ⟨l, b, xs, zs, rfl, rfl, hH, hB, hz, q⟩ := h
  cases rx
  obtain ⟨u, rfl, ru⟩ := rv.one
  cases ru
  obtain ⟨_, its, n, r, hl, e⟩ := I.lstM hH
  obtain ⟨its2, r2, ⟨⟨c2, d2, dt2, sl2⟩, e2, hc2, m2, hd2⟩, _⟩ := I.tuple hB
  replace hc2 : c2 = .type "tuple" := hc2
  replace hd2 : dt2 = .seq its2.toArray m2 := hd2
  subst hc2 hd2
  have l2 := r2.length
  have sz : its.toArray.size + its2.toArray.size ≤ sizeLine := by rw [List.size_toArray, List.size_toArray]; omega
  have long : ¬ (!its.toArray.isEmpty && Builtin.List.listTooLong (its.toArray.size + its2.toArray.size)) = true := by rw [notLongL sz, Bool.and_false]; exact Bool.false_ne_true
  refine call_meets PySem.F.slot_list_extend ⟨_, e, rfl⟩ PySem.F.entry_list_extend (PySem.F.args_list_extend_2 _ _) (ext_tuple l its.toArray n b its2.toArray m2 d2 sl2 long (by rw [List.size_toArray]; omega) (by omega)) ⟨e, e2, ?_⟩
  refine ⟨.non, _, I.lset (its' := its ++ its2) hH e (by simp) (r.append r2) (by rw [List.length_append]; omega), rfl, q⟩
section
variable {X : Cx} {C : FC} {f : M RV} {a : Expr}
/-- x.extend(e), e a list or a tuple -/
theorem js_extA {i : Nat} {st : Stmt} (h : PS X st (tDrop (tBM X.K "list" rExtend (tVar i) (tCons (tJ X.K C f) tNil)))) (h2 : PS X st (tDrop (tBM X.K "list" (rExtT X.K) (tVar i) (tCons (tJ X.K C f) tNil)))) : JS X C st (sExt i f) := by
  refine ⟨fun pins s σ H D' I h0 => ?_⟩
  obtain ⟨F, env, fl, hd, he, q⟩ := h0
  simp only [sExt] at he
  split at he
  · rename_i ds0 h0
    split at he
    · cases he
    rename_i x e1 h1
    split at he
    · cases he
    rename_i d h2'
    split at he
    · cases he
    rename_i es h4
    split at he
    · rename_i ds h3
      split at he
      · rename_i hlen
        cases he
        obtain ⟨a, vs0, p1, p2, _⟩ := hd.ow i ds0 h0
        cases d with
        | list es' =>
          cases h4
          refine h.run pins s σ H D' I ⟨_, p1, .inl ⟨rfl, _, SqL.of p2⟩, tJ.go hd h1 fun F1 H1 v s1 g1 r1 => ?_⟩
          obtain ⟨b, vs, q1, q2, q3, q4, q5⟩ := g1.ow i ds h3
          rw [p1] at q1; cases q1
          show rExtend (.ref a) [v] H1 (fun _ H2 => D'.nx σ H2)
          refine s_ext (ds := ds) g1.ex (g1.vw r1 h2') ⟨_, rfl⟩ rfl q2 q4.length hlen fun ws rw' => ?_
          exact q F1 σ _ s1.exF (g1.write h3 p1 (q4.append rw')).1
        | tuple es' =>
          cases h4
          refine h2.run pins s σ H D' I ⟨_, p1, .inl ⟨rfl, _, SqL.of p2⟩, tJ.go hd h1 fun F1 H1 v s1 g1 r1 => ?_⟩
          obtain ⟨b, vs, q1, q2, q3, q4, q5⟩ := g1.ow i ds h3
          rw [p1] at q1; cases q1
          cases (show Rp F1 v _ from g1.vw r1 h2') with
          | tup t1 t2 =>
            refine ⟨a, _, vs, _, rfl, rfl, q2, (t1.up g1.ex).sq, by rw [q4.length, t2.length, ← lim_eq]; exact hlen, ?_⟩
            exact q F1 σ _ s1.exF (g1.write h3 p1 (q4.append t2)).1
        | _ => cases h4
      · cases he
    · cases he
  · cases he
end
end J
/-! JD: list and tuple of a range. -/
namespace J
open PySem L2
theorem rg_rp {F : Hp} {a b : Int} : RpA F (rgV a b) (rngD a (b - a).toNat) := by
  unfold rgV rngD
  generalize (b - a).toNat = n
  induction n with
  | zero => exact .nil
  | succ n ih =>
    rw [List.range_succ, List.map_append, List.map_append]
    exact ih.append (.cons (.int _) .nil)
section
variable {X : Cx} {C : FC} {fa fb : M RV} {a b e : Expr} {p p2 pos pos2 : Pos}
theorem rg1_run {K : Fr} {σ : St} {H : Hp} {P : Int → Int → Hp → Prop} {Z : List D → Env → Prop} (h : ∃ F env ds env', Hd K C F env σ H ∧ itR1 fa env = some (ds, env') ∧ ds.length ≤ limit ∧
    ∀ F1 H1 x y, Stp F env σ H F1 env' H1 → Hd K C F1 env' σ H1 → RgOk x y → ds = rngD x (y - x).toNat → P x y H1) : tRg1 (tJ K C fa) σ H P := by
  obtain ⟨F, env, ds, env', hd, he, hl, q⟩ := h
  simp only [itR1] at he
  split at he
  · rename_i n e1 h1
    split at he
    · rename_i hb
      cases he
      refine tJ.go hd h1 fun F1 H1 v s1 g1 r1 => ?_
      have r1' : Rp F1 v (.int n) := r1
      cases r1'
      rw [rngD_len] at hl
      refine ⟨n, rfl, q F1 H1 0 n s1 g1 ⟨by decide, by decide, by rw [two62]; exact hb.1, by rw [two62]; exact hb.2, by rw [Int.sub_zero]; exact hl⟩ (by rw [Int.sub_zero])⟩
    · cases he
  · cases he
theorem rg2_run {K : Fr} {σ : St} {H : Hp} {P : Int → Int → Hp → Prop} (h : ∃ F env ds env', Hd K C F env σ H ∧ itR2 fa fb env = some (ds, env') ∧ ds.length ≤ limit ∧
    ∀ F1 H1 x y, Stp F env σ H F1 env' H1 → Hd K C F1 env' σ H1 → RgOk x y → ds = rngD x (y - x).toNat → P x y H1) : tRg2 (tJ K C fa) (tJ K C fb) σ H P := by
  obtain ⟨F, env, ds, env', hd, he, hl, q⟩ := h
  simp only [itR2] at he
  split at he
  · rename_i m e1 h1
    split at he
    · rename_i n e2 h2
      split at he
      · rename_i hb
        cases he
        refine tJ.go hd h1 fun F1 H1 v s1 g1 r1 => tJ.go g1 h2 fun F2 H2 w s2 g2 r2 => ?_
        have r1' : Rp F1 v (.int m) := r1
        have r2' : Rp F2 w (.int n) := r2
        cases r1'
        cases r2'
        rw [rngD_len] at hl
        exact ⟨m, n, rfl, rfl, q F2 H2 m n (s1.trans s2) g2 ⟨by rw [two62]; exact hb.1.1, by rw [two62]; exact hb.1.2, by rw [two62]; exact hb.2.1, by rw [two62]; exact hb.2.2, hl⟩ rfl⟩
      · cases he
    · cases he
  · cases he
theorem lst_run {K : Fr} {it : M (List D)} {te : St → Hp → (Int → Int → Hp → Prop) → Prop} (hr : ∀ (σ : St) (H : Hp) (P : Int → Int → Hp → Prop), (∃ F env ds env', Hd K C F env σ H ∧ it env = some (ds, env') ∧ ds.length ≤ limit ∧
    ∀ F1 H1 x y, Stp F env σ H F1 env' H1 → Hd K C F1 env' σ H1 → RgOk x y → ds = rngD x (y - x).toNat → P x y H1) → te σ H P) {σ : St} {H : Hp} {Q : VK} (h : tJ K C (eRgL it) σ H Q) : tLstRg te σ H Q := by
  obtain ⟨F, env, rv, env', hd, he, q⟩ := h
  simp only [eRgL] at he
  split at he
  · rename_i ds e1 h1
    split at he
    · rename_i hl
      cases he
      refine hr σ H _ ⟨F, env, ds, _, hd, h1, hl, fun F1 H1 x y s1 g1 ok e => ⟨ok, fun t ht => ?_⟩⟩
      subst e
      exact q F1 _ _ (s1.trans (Stp.new g1 ht)) (g1.new ht) (g1.tmNew s1 ht rg_rp)
    · cases he
  · cases he
theorem cV_rg (x y : Int) : cV x 1 (y - x).toNat = rgV x y := by
  unfold cV rgV
  exact List.map_congr_left fun k _ => by rw [Int.mul_one]
theorem tup_run {K : Fr} {it : M (List D)} {te : St → Hp → (Int → Int → Hp → Prop) → Prop} (hr : ∀ (σ : St) (H : Hp) (P : Int → Int → Hp → Prop), (∃ F env ds env', Hd K C F env σ H ∧ it env = some (ds, env') ∧ ds.length ≤ limit ∧
    ∀ F1 H1 x y, Stp F env σ H F1 env' H1 → Hd K C F1 env' σ H1 → RgOk x y → ds = rngD x (y - x).toNat → P x y H1) → te σ H P) {σ : St} {H : Hp} {Q : VK} (h : tJ K C (eRgT it) σ H Q) : tTupRgC (fun σ H R => te σ H fun i j H1 => (-(2 ^ 62) ≤ i ∧ i < 2 ^ 62 ∧ -(2 ^ 62) ≤ j ∧ j < 2 ^ 62) ∧ R i 1 (j - i).toNat H1) σ H Q := by
  obtain ⟨F, env, rv, env', hd, he, q⟩ := h
  simp only [eRgT] at he
  split at he
  · rename_i ds e1 h1
    split at he
    · rename_i hl
      cases he
      refine hr σ H _ ⟨F, env, ds, _, hd, h1, hl, fun F1 H1 x y s1 g1 ok e => ⟨⟨ok.1, ok.2.1, ok.2.2.1, ok.2.2.2.1⟩, ok.2.2.2.2, fun t o ht ho => ?_⟩⟩
      subst e
      have hf := Same.none g1.ex ht
      rw [cV_rg]
      exact q (upd F1 t (.frz o (.tup _))) _ _ (s1.trans (Stp.newF g1 ht)) (g1.newF ht) (.tup ⟨o, upd_same, ho⟩ rg_rp)
    · cases he
  · cases he
variable (hl : X.mg "list" = none) (ht : X.mg "tuple" = none) (hm : X.mg "range" = none)
theorem j_listR1 (hl : X.mg "list" = none) (hm : X.mg "range" = none) (ha : JE X C a fa) (hc : X.calm = true := by rfl) (hg : Gl X "list" := by rfl) (hg2 : Gl X "range" := by rfl) (hs : starEach [a] X.env = (false, eval a X.env) :: starEach [] X.env := by rfl) :
    JE X C (.Call (.Name "list" p) [.Call (.Name "range" p2) [a] [] pos2] [] pos) (eRgL (itR1 fa)) := pe_weak (pe_listRg hc hg hl (prg_1 hg2 hm ha hs) rfl) fun σ H Q h => lst_run (fun σ H P z => rg1_run (Z := fun _ _ => True) z) h
theorem j_tupleR1 (hl : X.mg "tuple" = none) (hm : X.mg "range" = none) (ha : JE X C a fa) (hc : X.calm = true := by rfl) (hg : Gl X "tuple" := by rfl) (hg2 : Gl X "range" := by rfl) (hs : starEach [a] X.env = (false, eval a X.env) :: starEach [] X.env := by rfl) :
    JE X C (.Call (.Name "tuple" p) [.Call (.Name "range" p2) [a] [] pos2] [] pos) (eRgT (itR1 fa)) := pe_weak (pe_tupRgC hc hg hl (prgc_of (prg_1 hg2 hm ha hs)) rfl) fun σ H Q h => tup_run (fun σ H P z => rg1_run (Z := fun _ _ => True) z) h
theorem j_listR2 (hl : X.mg "list" = none) (hm : X.mg "range" = none) (ha : JE X C a fa) (hb : JE X C b fb) (hc : X.calm = true := by rfl) (hg : Gl X "list" := by rfl) (hg2 : Gl X "range" := by rfl) (hs : starEach [a, b] X.env = (false, eval a X.env) :: starEach [b] X.env := by rfl) (hs2 : starEach [b] X.env = (false, eval b X.env) :: starEach [] X.env := by rfl) (hp : (backTo pos2 (starEach [b] X.env)).any (·.1) = false := by rfl) :
    JE X C (.Call (.Name "list" p) [.Call (.Name "range" p2) [a, b] [] pos2] [] pos) (eRgL (itR2 fa fb)) := pe_weak (pe_listRg hc hg hl (prg_2 hg2 hm ha hb hs hs2 hp) rfl) fun σ H Q h => lst_run (fun σ H P z => rg2_run z) h
theorem j_tupleR2 (hl : X.mg "tuple" = none) (hm : X.mg "range" = none) (ha : JE X C a fa) (hb : JE X C b fb) (hc : X.calm = true := by rfl) (hg : Gl X "tuple" := by rfl) (hg2 : Gl X "range" := by rfl) (hs : starEach [a, b] X.env = (false, eval a X.env) :: starEach [b] X.env := by rfl) (hs2 : starEach [b] X.env = (false, eval b X.env) :: starEach [] X.env := by rfl) (hp : (backTo pos2 (starEach [b] X.env)).any (·.1) = false := by rfl) :
    JE X C (.Call (.Name "tuple" p) [.Call (.Name "range" p2) [a, b] [] pos2] [] pos) (eRgT (itR2 fa fb)) := pe_weak (pe_tupRgC hc hg hl (prgc_of (prg_2 hg2 hm ha hb hs hs2 hp)) rfl) fun σ H Q h => tup_run (fun σ H P z => rg2_run z) h
end
end J
/-! JE: a pair stored at two places of lists, a range that falls, in, is True. -/
namespace J
open PySem L2
section
variable {X : Cx} {C : FC} {f fa fb fc : M RV} {st : Stmt} {es : M (List D)} {a b e : Expr} {p pos : Pos}
theorem st1_run {K : Fr} {i : Nat} {ie : M RV} {d : D} {F : Hp} {env env' : Env} {σ : St} {H : Hp} {v : V} {Q : St → Hp → Prop} (hd : Hd K C F env σ H) (r : Rp F v d) (he : st1 i ie d env = some env')
    (q : ∀ F' H', Same F F' → Hd K C F' env' σ H' → Q σ H') : gSub (tVar i) (tJ K C ie) rSetL v σ H Q := by
  simp only [st1] at he
  split at he
  · rename_i ds0 h0
    split at he
    · rename_i k e3 h3
      split at he
      · rename_i ds h4
        split at he
        · rename_i j h5
          cases he
          obtain ⟨a, vs0, p1, p2, _⟩ := hd.ow i ds0 h0
          refine ⟨_, p1, tJ.go hd h3 fun F3 H3 w s3 g3 r3 => ?_⟩
          have r3' : Rp F3 w (.int k) := r3
          cases r3'
          obtain ⟨b, vs, q1, q2, q3, q4, q5⟩ := g3.ow i ds h4
          rw [p1] at q1; cases q1
          refine ⟨_, vs, k, j, rfl, rfl, q2, by rw [q4.length]; exact h5, ?_⟩
          exact q F3 _ s3.exF (g3.write h4 p1 (RpA.set j (r.up s3.exF) q4)).1
        · cases he
      · cases he
    · cases he
  · cases he
theorem js_ps {i j : Nat} (h : PS X st (tAsg (tTupZ (taJ X.K C es)) (gTup X.K 2 (gCons (gSub (tVar i) (tJ X.K C fa) rSetL) (gCons (gSub (tVar j) (tJ X.K C fb) rSetL) gNil))))) : JS X C st (sPS i fa j fb es) := by
  refine ps_weak h fun D' σ H ⟨F, env, fl, hd, he, q⟩ => ?_
  simp only [sPS] at he
  split at he
  · rename_i d1 d2 e0 h1
    split at he
    · rename_i e1 h2
      split at he
      · rename_i e2 h3
        cases he
        refine taJ.go hd h1 fun F1 H1 vs s1 g1 r1 => ⟨by rw [r1.length]; exact (by decide : (2 : Nat) ≤ sizeLine), fun p o hp ho => ?_⟩
        have g2 := g1.newF (o := .frz o (.tup vs)) hp
        have hf := Same.none g1.ex hp
        have up : Same F1 (upd F1 p (.frz o (.tup vs))) := same_upd hf
        cases r1 with
        | cons ra rr =>
        cases rr with
        | cons rb rr =>
        cases rr
        refine ⟨p, _, rfl, .inl (.inr ⟨o, upd_same⟩), rfl, _, _, rfl, st1_run g2 (ra.up up) h2 fun F3 H3 s3 g3 => ?_⟩
        refine ⟨_, _, rfl, st1_run g3 ((rb.up up).up s3) h3 fun F4 H4 s4 g4 => ?_⟩
        exact ⟨rfl, q F4 σ H4 ((s1.exF.trans up).trans (s3.trans s4)) g4⟩
      · cases he
    · cases he
  · cases he
/-! range(a, b, -1) -/
theorem rngM_get {lo : Int} {n i : Nat} {d : D} (h : (rngM lo n)[i]? = some d) : i < n ∧ d = .int (lo - (i : Nat)) := by
  unfold rngM at h
  rw [List.getElem?_map] at h
  rcases Nat.lt_or_ge i n with hi | hi
  · rw [List.getElem?_range hi] at h
    cases h
    exact ⟨hi, rfl⟩
  · rw [List.getElem?_eq_none (by rw [List.length_range]; exact hi)] at h
    cases h
theorem wk_rangeM {K : Fr} {F0 : Hp} {lo : Int} {n : Nat} : Wk K C F0 (Itc lo (-1) n) (rngM lo n) := fun F env σ H s g => by
  refine ⟨fun i hi => by have : (rngM lo n).length = n := by unfold rngM; simp
                         rw [this] at hi; exact hi, fun i d hd => ?_⟩
  obtain ⟨h1, rfl⟩ := rngM_get hd
  refine ⟨h1, fun x H' ⟨e, hy⟩ => ?_⟩
  subst e hy
  have : lo + (i : Nat) * (-1 : Int) = lo - (i : Nat) := by omega
  rw [this]
  exact ⟨F, g, Stp.refl, .int _⟩
theorem ji_r3 {tg iter : Expr} (h : PI X tg iter (iRng3 (tCons (tJ X.K C fa) (tCons (tJ X.K C fb) (tCons (tJ X.K C fc) tNil))))) : JI X C tg iter (itR3 fa fb fc) := by
  refine pi_weak h fun σ H R ⟨F, env, ds, env', hd, he, q⟩ => ?_
  simp only [itR3] at he
  split at he
  · rename_i m e1 h1
    split at he
    · rename_i n e2 h2
      split at he
      · rename_i s e3 h3
        split at he
        · rename_i hb
          obtain ⟨rfl, hb1, hb2⟩ := hb
          cases he
          refine tJ.go hd h1 fun F1 H1 v s1 g1 r1 => tJ.go g1 h2 fun F2 H2 w s2 g2 r2 => tJ.go g2 h3 fun F3 H3 z s3 g3 r3 => ?_
          have r1' : Rp F1 v (.int m) := r1
          have r2' : Rp F2 w (.int n) := r2
          have r3' : Rp F3 z (.int (-1)) := r3
          cases r1'
          cases r2'
          cases r3'
          exact ⟨m, n, -1, _, rfl, RgC.neg (by rw [two62]; exact hb1.1) (by rw [two62]; exact hb1.2) (by rw [two62]; exact hb2.1) (by rw [two62]; exact hb2.2), q F3 H3 _ (s1.trans (s2.trans s3)) g3 wk_rangeM⟩
        · cases he
      · cases he
    · cases he
  · cases he
/-! in -/
theorem flt_V {F : Hp} {v : V} {d : D} (r : Rp F v d) (h : flt d = true) : flatV v = true := by
  cases d <;> simp [flt] at h <;> cases r <;> rfl
theorem flt_all {F : Hp} : ∀ {vs : List V} {ds : List D}, RpA F vs ds → ds.all flt = true → vs.all flatV = true
  | _, _, .nil, _ => rfl
  | _, _, .cons r t, h => by
    rw [List.all_cons, Bool.and_eq_true] at h ⊢
    exact ⟨flt_V r h.1, flt_all t h.2⟩
theorem flt_eq {F : Hp} {v w : V} {d e : D} (r : Rp F v d) (s : Rp F w e) (h : flt d = true) (k : flt e = true) : eqV v w = beqD d e := by
  cases d <;> simp [flt] at h <;> cases e <;> simp [flt] at k <;> cases r <;> cases s <;> simp [eqV, beqD, Bool.beq_eq_decide_eq]
theorem flt_any {F : Hp} {v : V} {d : D} (r : Rp F v d) (h : flt d = true) : ∀ {vs : List V} {ds : List D}, RpA F vs ds → ds.all flt = true → inV v vs = ds.any fun x => beqD x d
  | _, _, .nil, _ => rfl
  | _, _, .cons a t, k => by
    rw [List.all_cons, Bool.and_eq_true] at k
    unfold inV
    rw [List.any_cons, List.any_cons, flt_eq a r k.1 h]
    congr 1
    exact flt_any r h t k.2
theorem vw_flt {F H : Hp} {v : V} {d : D} (w : VwD F H v d) (h : flt d = true) : Rp F v d := by
  cases d <;> simp [flt] at h <;> exact w
theorem s_in : S2 (rIn X.K false) inD := fun F H x y d e rt Q s v w q p => by
  simp only [inD] at q
  split at q
  · rename_i ds hs
    split at q
    · rename_i hf
      cases q
      have rv := vw_flt v hf.1
      cases e <;> simp only [seqD] at hs <;> cases hs
      · obtain ⟨l, vs, rfl, h1, h2⟩ := w
        refine ⟨l, vs, rfl, .inl (SqL.of h1), flt_V rv hf.1, flt_all h2 hf.2, ?_⟩
        rw [if_neg (by decide), flt_any rv hf.1 h2 hf.2]
        exact p _ F H (.inl ⟨rfl, rfl⟩) (.bl _)
      · cases (show Rp F y _ from w) with
        | tup h1 h2 =>
          refine ⟨_, _, rfl, .inr ((h1.up s).sq), flt_V rv hf.1, flt_all h2 hf.2, ?_⟩
          rw [if_neg (by decide), flt_any rv hf.1 h2 hf.2]
          exact p _ F H (.inl ⟨rfl, rfl⟩) (.bl _)
    · cases q
  · cases q
theorem s_notIn : S2 (rIn X.K true) notInD := fun F H x y d e rt Q s v w q p => by
  simp only [notInD] at q
  split at q
  · rename_i ds hs
    split at q
    · rename_i hf
      cases q
      have rv := vw_flt v hf.1
      cases e <;> simp only [seqD] at hs <;> cases hs
      · obtain ⟨l, vs, rfl, h1, h2⟩ := w
        refine ⟨l, vs, rfl, .inl (SqL.of h1), flt_V rv hf.1, flt_all h2 hf.2, ?_⟩
        rw [if_pos rfl, flt_any rv hf.1 h2 hf.2]
        exact p _ F H (.inl ⟨rfl, rfl⟩) (.bl _)
      · cases (show Rp F y _ from w) with
        | tup h1 h2 =>
          refine ⟨_, _, rfl, .inr ((h1.up s).sq), flt_V rv hf.1, flt_all h2 hf.2, ?_⟩
          rw [if_pos rfl, flt_any rv hf.1 h2 hf.2]
          exact p _ F H (.inl ⟨rfl, rfl⟩) (.bl _)
    · cases q
  · cases q
/-! is True -/
theorem s_isB : S2 rIsB isBD := fun F H x y d e rt Q s v w q p => by
  cases d <;> cases e <;> simp only [isBD] at q <;> cases q
  cases (show Rp F x _ from v)
  cases (show Rp F y _ from w)
  refine ⟨_, _, rfl, rfl, p _ F H (.inl ⟨rfl, rfl⟩) ?_⟩
  rw [Bool.beq_eq_decide_eq]
  exact .bl _
theorem s_notB : S2 rNotB notBD := fun F H x y d e rt Q s v w q p => by
  cases d <;> cases e <;> simp only [notBD] at q <;> cases q
  cases (show Rp F x _ from v)
  cases (show Rp F y _ from w)
  refine ⟨_, _, rfl, rfl, p _ F H (.inl ⟨rfl, rfl⟩) ?_⟩
  rw [Bool.beq_eq_decide_eq]
  exact .bl _
end
end J
/-! JF: tuple(range(a, b, -1)), t.count(x), x.pop(k). -/
namespace J
open PySem L2
theorem cV_rp {F : Hp} {lo : Int} {n : Nat} : RpA F (cV lo (-1) n) (rngM lo n) := by
  unfold cV rngM
  induction n with
  | zero => exact .nil
  | succ n ih =>
    rw [List.range_succ, List.map_append, List.map_append]
    refine ih.append (.cons ?_ .nil)
    show Rp F (V.int (lo + (n : Int) * (-1))) (PyData.int (lo - (n : Int)))
    rw [show lo + (n : Int) * (-1) = lo - (n : Int) by omega]
    exact .int _
section
variable {X : Cx} {C : FC} {fa fb fc : M RV} {a b c e : Expr} {p p2 pos pos2 : Pos}
theorem tup3_run {K : Fr} {σ : L2.St} {H : Hp} {Q : VK} (h : tJ K C (eRgT (itR3 fa fb fc)) σ H Q) : tTupRgC (tRg3 (tCons (tJ K C fa) (tCons (tJ K C fb) (tCons (tJ K C fc) tNil)))) σ H Q := by
  obtain ⟨F, env, rv, env', hd, he, q⟩ := h
  simp only [eRgT] at he
  split at he
  · rename_i ds e0 h0
    split at he
    · rename_i hl
      cases he
      simp only [itR3] at h0
      split at h0
      · rename_i m e1 h1
        split at h0
        · rename_i n e2 h2
          split at h0
          · rename_i s e3 h3
            split at h0
            · rename_i hb
              obtain ⟨rfl, hb1, hb2⟩ := hb
              cases h0
              refine tJ.go hd h1 fun F1 H1 v s1 g1 r1 => tJ.go g1 h2 fun F2 H2 w s2 g2 r2 => tJ.go g2 h3 fun F3 H3 z s3 g3 r3 => ?_
              have r1' : Rp F1 v (.int m) := r1
              have r2' : Rp F2 w (.int n) := r2
              have r3' : Rp F3 z (.int (-1)) := r3
              cases r1'
              cases r2'
              cases r3'
              have hlen : (m - n).toNat ≤ 2 ^ 24 := by
                have z : (rngM m (m - n).toNat).length = (m - n).toNat := by unfold rngM; rw [List.length_map, List.length_range]
                rw [z] at hl
                exact hl
              refine ⟨m, n, -1, _, rfl, RgC.neg (by rw [two62]; exact hb1.1) (by rw [two62]; exact hb1.2) (by rw [two62]; exact hb2.1) (by rw [two62]; exact hb2.2), hlen, fun t o ht ho => ?_⟩
              have hf := Same.none g3.ex ht
              exact q (upd F3 t (.frz o (.tup _))) _ _ ((s1.trans (s2.trans s3)).trans (Stp.newF g3 ht)) (g3.newF ht) (.tup ⟨o, upd_same, ho⟩ cV_rp)
            · cases h0
          · cases h0
        · cases h0
      · cases h0
    · cases he
  · cases he
theorem j_tupleR3 (hl : X.mg "tuple" = none) (hm : X.mg "range" = none) (ha : JE X C a fa) (hb : JE X C b fb) (hc : JE X C c fc) (hcm : X.calm = true := by rfl) (hg : Gl X "tuple" := by rfl) (hg2 : Gl X "range" := by rfl)
    (hs : starEach [a, b, c] X.env = (false, eval a X.env) :: starEach [b, c] X.env := by rfl) (hs2 : starEach [b, c] X.env = (false, eval b X.env) :: starEach [c] X.env := by rfl) (hs3 : starEach [c] X.env = (false, eval c X.env) :: starEach [] X.env := by rfl) (hp : (backTo pos2 (starEach [b, c] X.env)).any (·.1) = false := by rfl) :
    JE X C (.Call (.Name "tuple" p) [.Call (.Name "range" p2) [a, b, c] [] pos2] [] pos) (eRgT (itR3 fa fb fc)) :=
  pe_weak (pe_tupRgC hcm hg hl (prgc_3 hg2 hm (pa_cons ha (pa_cons hb (pa_cons hc pa_nil hs3) hs2) hs) hs hp) rfl) fun σ H Q h => tup3_run h
/-! t.count(x) -/
theorem flt_cnt {F : Hp} {v : V} {d : D} (r : Rp F v d) (h : flt d = true) : ∀ {vs : List V} {ds : List D}, RpA F vs ds → ds.all flt = true → (vs.countP fun x => eqV x v) = ds.countP fun x => beqD x d
  | _, _, .nil, _ => rfl
  | _, _, .cons a t, k => by
    rw [List.all_cons, Bool.and_eq_true] at k
    rw [List.countP_cons, List.countP_cons, flt_cnt r h t k.2, flt_eq a r k.1 h]
theorem je_cnt (h : ∀ H0, PE X e (tBMT (rCnt H0) (tJ X.K C fa) (tCons (tJ X.K C fb) tNil))) : JE X C e (eCnt fa fb) := by
  refine pe_weak (h fun _ => none) fun σ H Q ⟨F, env, rv, env', hd, he, q⟩ => ?_
  simp only [eCnt] at he
  split at he
  · rename_i ds e1 h1
    split at he
    · rename_i d e2 h2
      split at he
      · rename_i hf
        cases he
        refine tJ.go hd h1 fun F1 H1 v s1 g1 r1 => ?_
        have r1' : Rp F1 v (.tuple ds) := r1
        cases r1' with
        | tup t1 t2 =>
          refine ⟨⟨_, _, rfl, t1.up g1.ex⟩, tJ.go g1 h2 fun F2 H2 w s2 g2 r2 => ?_⟩
          have r2' : Rp F2 w d := r2
          refine ⟨_, _, w, rfl, rfl, (t1.up s2.exF).up g2.ex, flt_all (t2.up s2.exF) hf.2, flt_V r2' hf.1, ?_⟩
          rw [flt_cnt r2' hf.1 (t2.up s2.exF) hf.2]
          exact q F2 H2 _ (s1.trans s2) g2 (.int _)
      · cases he
    · cases he
  · cases he
/-! x.pop(k) -/
theorem RpA.erase {F : Hp} : ∀ {vs : List V} {ds : List D} (i : Nat), RpA F vs ds → RpA F (vs.eraseIdx i) (ds.eraseIdx i)
  | _, _, _, .nil => .nil
  | _, _, 0, .cons _ t => t
  | _, _, i + 1, .cons a t => .cons a (RpA.erase i t)
theorem je_popA {i : Nat} (h : PE X e (tBM X.K "list" rPopAt (tVar i) (tCons (tJ X.K C fa) tNil))) : JE X C e (ePopA i fa) := by
  refine pe_weak h fun σ H Q ⟨F, env, rv, env', hd, he, q⟩ => ?_
  simp only [ePopA] at he
  split at he
  · rename_i ds0 h0
    split at he
    · rename_i n e1 h1
      split at he
      · rename_i ds h3
        split at he
        · rename_i hn
          split at he
          · rename_i d h4
            split at he
            · rename_i hb
              cases he
              obtain ⟨a, vs0, p1, p2, _⟩ := hd.ow i ds0 h0
              refine ⟨_, p1, .inl ⟨rfl, _, SqL.of p2⟩, tJ.go hd h1 fun F1 H1 v s1 g1 r1 => ?_⟩
              have r1' : Rp F1 v (.int n) := r1
              cases r1'
              obtain ⟨b, vs, q1, q2, q3, q4, q5⟩ := g1.ow i ds h3
              rw [p1] at q1; cases q1
              obtain ⟨u, z1, z2⟩ := q4.getd h4
              obtain ⟨w1, w2⟩ := g1.write h3 p1 (RpA.erase n.toNat q4)
              have hlt : n.toNat < vs.length := (List.getElem?_eq_some_iff.mp z1).1
              have hb' : n < 4611686018427387904 := hb
              have e2 : seqIndex? n vs.length = some n.toNat := by
                unfold seqIndex?
                simp
                omega
              exact ⟨a, vs, n, n.toNat, u, rfl, rfl, q2, by omega, by omega, e2, z1, q F1 _ u (s1.trans w2) w1 z2⟩
            · cases he
          · cases he
        · cases he
      · cases he
    · cases he
  · cases he
/-! str(i) -/
theorem s_str : S1 (fun xs H Q => ∃ i : Int, xs = [V.int i] ∧ i.natAbs.log2 < 1920 ∧ Q (.str (toString i)) H) strD := fun F H x d rt Q s v q p => by
  cases d <;> simp only [strD] at q <;> try (cases q)
  split at q
  · rename_i i h
    cases q
    cases (show Rp F x _ from v)
    refine ⟨i, rfl, ?_, p _ F H (.inl ⟨rfl, rfl⟩) (.str _)⟩
    by_cases z : i.natAbs = 0
    · rw [z]; decide
    · exact (Nat.log2_lt z).mpr (Nat.lt_of_lt_of_le h (Nat.pow_le_pow_right (by decide) (by decide)))
  · cases q
theorem j_str (hm : X.mg "str" = none) (ha : JE X C a fa) (hg : Gl X "str" := by rfl) (hs : starEach [a] X.env = (false, eval a X.env) :: starEach [] X.env := by rfl) :
    JE X C (.Call (.Name "str" p) [a] [] pos) (eOp1 strD fa) := je_b s_str (pe_callTy call_str_int hg hm bt_str (pa_cons ha pa_nil hs) (he := hs))
/-! a < b < c -/
theorem jt_chain {op op' : CmpOp} {r r' : R2} {g g' : D → D → Option Rt} (ho : OpR X (compareOp op) r) (ho' : OpR X (compareOp op') r') (S : S2 r g) (S' : S2 r' g') (ha : JE X C a fa) (hb : JE X C b fb) (hc : JE X C c fc)
    (hm : lastMarks [op, op'] [b, c] = false := by with_unfolding_all rfl) : JT X C (.Compare a [op, op'] [b, c] pos) (tCh g g' fa fb fc) := by
  refine pt_weak (pt_chain ho ho' ha hb hc hm) fun σ H Q ⟨F, env, bb, env', hd, he, q⟩ => ?_
  simp only [tCh] at he
  split at he
  · rename_i i e1 h1
    split at he
    · rename_i j e2 h2
      split at he
      · rename_i k h3
        refine tJ.go hd h1 fun F1 H1 v s1 g1 r1 => tJ.go g1 h2 fun F2 H2 w s2 g2 r2 => ?_
        have r1' : Rp F1 v (.int i) := r1
        have r2' : Rp F2 w (.int j) := r2
        cases r1'
        cases r2'
        refine S F2 H2 _ _ (.int i) (.int j) _ _ g2.ex (show Rp F2 _ _ from .int i) (show Rp F2 _ _ from .int j) h3 (fun v3 F3 H3 x3 r3 => ?_)
        have r3' : Rp F3 v3 (.bool k) := r3
        cases r3'
        obtain ⟨g3, s3⟩ := Ext.hd g2 x3
        refine ⟨k, rfl, ?_⟩
        by_cases z : k = true
        · rw [if_pos z] at he ⊢
          split at he
          · rename_i l e3 h4
            split at he
            · rename_i m h5
              cases he
              refine tJ.go g3 h4 fun F4 H4 u s4 g4 r4 => ?_
              have r4' : Rp F4 u (.int l) := r4
              cases r4'
              refine S' F4 H4 _ _ (.int j) (.int l) _ _ g4.ex (show Rp F4 _ _ from .int j) (show Rp F4 _ _ from .int l) h5 (fun v5 F5 H5 x5 r5 => ?_)
              have r5' : Rp F5 v5 (.bool bb) := r5
              cases r5'
              obtain ⟨g5, s5⟩ := Ext.hd g4 x5
              exact ⟨bb, rfl, q F5 H5 (((s1.trans s2).trans s3).trans (s4.trans s5)) g5⟩
            · cases he
          · cases he
        · rw [if_neg z] at he ⊢
          cases he
          exact ⟨false, rfl, q F3 H3 ((s1.trans s2).trans s3) g3⟩
      · cases he
    · cases he
  · cases he
end
/-- for i, x in ..: two names as the target of a comprehension -/
theorem nn_two {i j : Nat} : ∀ d env env', gTp (glCons (gNm i) (glCons (gNm j) glNil)) d env = some env' → NoNew env env' := fun d env env' e => by
  cases d with
  | tuple ds =>
    cases ds with
    | nil => simp [glCons] at e
    | cons x r =>
      cases r with
      | nil => simp [glCons] at e
      | cons y r =>
        cases r with
        | nil =>
          simp [glCons] at e
          subst e
          exact ⟨fun k es p => (set_ne (by intro z; cases z) (set_ne (by intro z; cases z) p).2).2, fun k es p => (set_ne (by intro z; cases z) (set_ne (by intro z; cases z) p).2).2⟩
        | cons z r => simp [glCons] at e
  | _ => simp at e
end J
/-! JG: things with parts: made, handed back, parts moved out; calls that only look. -/
namespace J
open PySem L2
section
variable {K : Fr} {C : FC} {F F' : Hp} {env env' : Env} {σ : St} {H H' : Hp}
/-- what is known of a moved thing's addresses -/
def Mvd (C : FC) (env0 : Env) (H0 : Hp) (env : Env) (σ : St) (H : Hp) (a : Addr) : Prop := (C.H0 a = none ∨ a ∈ C.Mu) ∧ NotOw env σ H a ∧ (H0 a = none ∨ ¬ NotOw env0 σ H0 a)
theorem okO_step (s : Stp F env σ H F' env' H') {o : Ob} {v : V} (h : okO F H o v) (n : ∀ a ∈ foot H o v, NotOw env σ H a) : okO F' H' o v ∧ foot H' o v = foot H o v ∧ ∀ a ∈ foot H o v, NotOw env' σ H' a := by
  have k : ∀ a ∈ foot H o v, H' a = H a ∧ F' a = none := fun a m => by
    obtain ⟨z1, z2⟩ := okO_at o v h a m
    cases e : H a with
    | none => exact absurd e z1
    | some u =>
      obtain ⟨q1, q2⟩ := s.tmp a u z2 e (n a m)
      exact ⟨q2, q1⟩
  exact ⟨okO_keep s.exF o v h k, foot_keep o v fun a m => (k a m).1, fun a m => (n a m).stp s (okO_at o v h a m).1⟩
theorem Mvd.back (s : Stp F env σ H F' env' H') {a : Addr} (h : H' a = none ∨ ¬ NotOw env' σ H' a) : H a = none ∨ ¬ NotOw env σ H a := by
  rcases h with h | h
  · exact .inl (s.old a h)
  · by_cases e : H a = none
    · exact .inl e
    · exact .inr fun n => h (n.stp s e)
theorem Stp.drop (h : Hd K C F env σ H) (i : Nat) : Stp F env σ H F (env.set i .no) H :=
  Stp.refl.less ⟨fun j ds z => ⟨ds, (set_ne (by intro e; cases e) z).2⟩, fun j o z => (set_ne (by intro e; cases e) z).2⟩
/-- a value is moved into a thing -/
theorem Hd.mvO {F0 Hs : Hp} {env0 : Env} (h : Hd K C F env σ H) (h0 : Hd K C F0 env0 σ Hs) (s : Stp F0 env0 σ Hs F env H) {r : RV} {v : V} (hr : RVR Hs F env σ H r v) {o : Ob} (hd : mvO env r = some (o, env')) :
    Stp F0 env0 σ Hs F env' H ∧ Hd K C F env' σ H ∧ okO F H o v ∧ ∀ a ∈ foot H o v, Mvd C env0 Hs env' σ H a := by
  cases r with
  | fz d =>
    simp only [J.mvO] at hd
    cases hd
    exact ⟨s, h, by simp only [okO]; exact hr, fun a m => by simp only [foot] at m; exact absurd m (List.not_mem_nil)⟩
  | tm ds =>
    simp only [J.mvO] at hd
    cases hd
    obtain ⟨a, vs, rfl, h1, h2, h3, h4, h5⟩ := hr
    refine ⟨s, h, by simp only [okO]; exact ⟨a, vs, rfl, h1, h2, h3⟩, fun b m => ?_⟩
    simp only [foot, List.mem_singleton] at m
    subst m
    exact ⟨.inl (h0.old _ h4), h5, .inl h4⟩
  | nt ob =>
    simp only [J.mvO] at hd
    cases hd
    exact ⟨s, h, hr.1, fun a m => ⟨.inl (h0.old _ (hr.2 a m).1), (hr.2 a m).2, .inl (hr.2 a m).1⟩⟩
  | sl i =>
    have hv : σ[i]? = some (some v) := hr
    simp only [J.mvO] at hd
    split at hd
    · rename_i ds q
      cases hd
      obtain ⟨a, vs, h1, h2, h3, h4, h5⟩ := h.ow i ds q
      rw [hv] at h1; cases h1
      refine ⟨s.trans (Stp.drop h i), h.forget i, by simp only [okO]; exact ⟨a, vs, rfl, h2, h3, h4⟩, fun b m => ?_⟩
      simp only [foot, List.mem_singleton] at m
      subst m
      refine ⟨h5, ⟨fun j es p z => ?_, fun j o w p z => ?_⟩, Mvd.back s (.inr fun n => n.ow i ds q hv)⟩
      · obtain ⟨ne, p⟩ := set_ne (by intro z; cases z) p
        exact ne (h.inj i j ds es _ q p hv z)
      · obtain ⟨ne, p⟩ := set_ne (by intro z; cases z) p
        exact h.nto j i o ds w _ p q z hv
    · rename_i ob q
      cases hd
      obtain ⟨z1, z2⟩ := h.footN q hv
      refine ⟨s.trans (Stp.drop h i), h.forget i, z1, fun a m => ⟨z2 a m, ⟨fun j es p z => ?_, fun j o' w p z m' => ?_⟩, Mvd.back s (.inr fun n => n.nt i o v q hv m)⟩⟩
      · obtain ⟨ne, p⟩ := set_ne (by intro z; cases z) p
        exact h.nto i j _ es v a q p hv z m
      · obtain ⟨ne, p⟩ := set_ne (by intro z; cases z) p
        exact ne (h.ntj i j _ o' v w a q p hv z m m')
    · cases hd
end
/-- parts, evaluated in turn -/
def tnJ (K : Fr) (C : FC) (f : M (List Ob)) : TA := fun σ H Q => ∃ F env os env', Hd K C F env σ H ∧ f env = some (os, env') ∧
  ∀ F' H' vs, Stp F env σ H F' env' H' → Hd K C F' env' σ H' → okA F' H' os vs → (∀ a ∈ footA H' os vs, Mvd C env H env' σ H' a) → vs.length = os.length → Q vs H'
def JN (X : Cx) (C : FC) (n : Nat) (es : List Expr) (f : M (List Ob)) : Prop := PA X es (tnJ X.K C f) ∧ ∀ env os env', f env = some (os, env') → os.length = n
/-- a thing with parts, made by an expression -/
def toO (K : Fr) (C : FC) (f : M Ob) : TE := fun σ H Q => ∃ F env o env', Hd K C F env σ H ∧ f env = some (o, env') ∧
  ∀ F' H' v, Same F F' → Hd K C F' env' σ H' → okO F' H' o v → (∀ a ∈ foot H' o v, (C.H0 a = none ∨ a ∈ C.Mu) ∧ NotOw env' σ H' a) → Q v H'
section
variable {X : Cx} {C : FC} {a b c e : Expr} {es : List Expr} {pos : Pos} {fa fb fc f : M RV} {fl : M (List Ob)} {fo : M Ob} {st : Stmt}
theorem jn_nil : JN X C 0 [] nNil := ⟨pa_weak pa_nil fun σ H Q ⟨F, env, ds, env', hd, he, q⟩ => by
  simp only [nNil] at he
  cases he
  exact q F H [] Stp.refl hd (by simp only [okA]) (fun a m => by simp only [footA] at m; exact absurd m (List.not_mem_nil)) rfl, fun env ds env' h => by simp only [nNil] at h; cases h; rfl⟩
theorem jn_cons {n : Nat} (ha : JE X C e fa) (hr : JN X C n es fl) (hs : starEach (e :: es) X.env = (false, eval e X.env) :: starEach es X.env := by rfl) : JN X C (n + 1) (e :: es) (nCons fa fl) := by
  refine ⟨pa_weak (pa_cons ha hr.1 hs) fun σ H Q ⟨F, env, ds, env', hd, he, q⟩ => ?_, fun env ds env' he => ?_⟩
  · simp only [nCons] at he
    split at he
    · cases he
    rename_i x e1 h1
    split at he
    · cases he
    rename_i o e2 h2
    split at he
    · cases he
    rename_i os e3 h3
    cases he
    refine tJ.go hd h1 fun F1 H1 v s1 g1 r1 => ?_
    obtain ⟨s2, g2, ok, mv⟩ := g1.mvO hd s1 r1 h2
    refine ⟨F1, e2, os, env', g2, h3, fun F2 H2 vs s3 g3 ok3 mv3 hl => ?_⟩
    obtain ⟨k1, k2, k3⟩ := okO_step s3 ok fun a m => (mv a m).2.1
    refine q F2 H2 (v :: vs) (s2.trans s3) g3 ?_ (fun a m => ?_) (by rw [List.length_cons, List.length_cons, hl])
    · simp only [okA]
      refine ⟨k1, ok3, fun a m m' => ?_⟩
      rw [k2] at m
      rcases (mv3 a m').2.2 with z | z
      · exact (okO_at o v ok a m).1 z
      · exact z (mv a m).2.1
    · simp only [footA] at m
      rcases List.mem_append.mp m with m | m
      · rw [k2] at m
        exact ⟨(mv a m).1, k3 a m, (mv a m).2.2⟩
      · exact ⟨(mv3 a m).1, (mv3 a m).2.1, Mvd.back s2 (mv3 a m).2.2⟩
  · simp only [nCons] at he
    split at he
    · cases he
    split at he
    · cases he
    split at he
    · cases he
    rename_i os e3 h3
    cases he
    rw [List.length_cons, hr.2 _ _ _ h3]
/-- (.., ..) with parts of one's own -/
theorem jo_tup {n : Nat} {x1} (h : JN X C n es fl) (hn : n ≤ 1000 := by decide) : PE X (.Tuple es x1 pos) (toO X.K C (eNT fl)) := by
  refine pe_weak (pe_tupZ h.1) fun σ H Q ⟨F, env, rv, env', hd, he, q⟩ => ?_
  simp only [eNT] at he
  split at he
  · cases he
  rename_i os e1 h1
  cases he
  refine ⟨F, env, os, env', hd, h1, fun F1 H1 vs s1 g1 ok mv hl => ⟨?_, fun p o hp ho => ?_⟩⟩
  · rw [hl, h.2 _ _ _ h1]; exact Nat.le_trans hn (by decide)
  · have hf := Same.none g1.ex hp
    have np : p ∉ footA H1 os vs := fun m => (okA_at os vs ok p m).1 hp
    have k : ∀ a ∈ footA H1 os vs, upd H1 p (.frz o (.tup vs)) a = H1 a ∧ F1 a = none := fun a m => ⟨upd_ne fun e => np (by rw [← e]; exact m), (okA_at os vs ok a m).2⟩
    have fk : footA (upd H1 p (.frz o (.tup vs))) os vs = footA H1 os vs := footA_keep os vs fun a m => (k a m).1
    refine q F1 _ _ s1.exF (g1.new hp) ?_ fun a m => ?_
    · simp only [okO]
      exact ⟨p, vs, o, rfl, upd_same, ho, hf, okA_keep (Same.refl F1) os vs ok k, by rw [fk]; exact np⟩
    · simp only [foot, upd_same] at m
      rw [fk] at m
      rcases List.mem_cons.mp m with rfl | m
      · exact ⟨.inl (g1.old _ hp), (g1.notNew hp).up g1 hp⟩
      · exact ⟨(mv a m).1, (mv a m).2.1.up g1 hp⟩
/-- [.., ..] with parts of one's own -/
theorem jo_lst {n : Nat} (h : JN X C n es fl) (hn : n ≤ 1000 := by decide) : PE X (.List es pos) (toO X.K C (eNL fl)) := by
  refine pe_weak (pe_lst h.1) fun σ H Q ⟨F, env, rv, env', hd, he, q⟩ => ?_
  simp only [eNL] at he
  split at he
  · cases he
  rename_i os e1 h1
  cases he
  refine ⟨F, env, os, env', hd, h1, fun F1 H1 vs s1 g1 ok mv hl => ⟨?_, fun p hp => ?_⟩⟩
  · rw [hl, h.2 _ _ _ h1]; exact Nat.le_trans hn (by decide)
  · have hf := Same.none g1.ex hp
    have np : p ∉ footA H1 os vs := fun m => (okA_at os vs ok p m).1 hp
    have k : ∀ a ∈ footA H1 os vs, upd H1 p (.lst vs) a = H1 a ∧ F1 a = none := fun a m => ⟨upd_ne fun e => np (by rw [← e]; exact m), (okA_at os vs ok a m).2⟩
    have fk : footA (upd H1 p (.lst vs)) os vs = footA H1 os vs := footA_keep os vs fun a m => (k a m).1
    refine q F1 _ _ s1.exF (g1.new hp) ?_ fun a m => ?_
    · simp only [okO]
      exact ⟨p, vs, rfl, upd_same, hf, okA_keep (Same.refl F1) os vs ok k, by rw [fk]; exact np⟩
    · simp only [foot, upd_same] at m
      rw [fk] at m
      rcases List.mem_cons.mp m with rfl | m
      · exact ⟨.inl (g1.old _ hp), (g1.notNew hp).up g1 hp⟩
      · exact ⟨(mv a m).1, (mv a m).2.1.up g1 hp⟩
theorem js_retO (h : PE X a (toO X.K C fo)) : JS X C (.Return (some a) pos) (sRetO fo) := by
  refine ps_weak (ps_ret h) fun D' σ H ⟨F, env, fl, hd, he, q⟩ => ?_
  simp only [sRetO] at he
  split at he
  · cases he
  rename_i o e1 h1
  cases he
  exact ⟨F, env, o, e1, hd, h1, fun F1 H1 v s1 g1 ok mv => q F1 _ H1 v s1 g1 ⟨ok, mv⟩⟩
theorem js_asgO {i : Nat} {mp : List Nat} (hc : C.mp = mp) (hm : i ∉ mp) (h : PS X st (tAsg (toO X.K C fo) (gName i))) : JS X C st (sAsgO i fo) := by
  subst hc
  refine ps_weak h fun D' σ H ⟨F, env, fl, hd, he, q⟩ => ?_
  simp only [sAsgO] at he
  split at he
  · cases he
  rename_i o e1 h1
  cases he
  exact ⟨F, env, o, e1, hd, h1, fun F1 H1 v s1 g1 ok mv => q F1 _ H1 s1 (g1.asgN ok mv hm)⟩
end
/-! ### a part is moved out -/
theorem okA_get {F H : Hp} : ∀ {its : List Ob} {vs : List V} {k : Nat} {ob : Ob}, okA F H its vs → its[k]? = some ob → ∃ w, vs[k]? = some w ∧ okO F H ob w ∧ ∀ a ∈ foot H ob w, a ∈ footA H its vs
  | [], _, _, _, _, h => by simp at h
  | _ :: _, [], _, _, h, _ => by simp only [okA] at h
  | o :: os, v :: vs, 0, ob, h, e => by
    simp at e
    subst e
    simp only [okA] at h
    exact ⟨v, rfl, h.1, fun a m => by simp only [footA]; exact List.mem_append_left _ m⟩
  | o :: os, v :: vs, k + 1, ob, h, e => by
    simp only [okA] at h
    obtain ⟨w, h1, h2, h3⟩ := okA_get (k := k) h.2.1 (by simpa using e)
    exact ⟨w, by simpa using h1, h2, fun a m => by simp only [footA]; exact List.mem_append_right _ (h3 a m)⟩
section
variable {X : Cx} {C : FC} {st : Stmt}
theorem js_mv {i j k : Nat} {ki : Int} {mp : List Nat} (hc : C.mp = mp) (hm : i ∉ mp) (hk : ki = (k : Nat)) (h : PS X st (tAsg (tOp (rIxT X.K) (tVar j) (tC (.int ki))) (gName i))) : JS X C st (sMv i j k) := by
  subst hc hk
  refine ps_weak h fun D' σ H ⟨F, env, fl, hd, he, q⟩ => ?_
  simp only [sMv] at he
  split at he
  · rename_i its hj
    obtain ⟨v, h1, h2, h3⟩ := hd.nt j _ hj
    have hf := h3
    simp only [okO] at h2
    obtain ⟨a, vs, o, rfl, z1, z2, z3, z4, z5⟩ := h2
    have fo : foot H (.tp its) (.ref a) = a :: footA H its vs := by simp only [foot, z1]
    have g1 := hd.forget j
    have sq : SqT X.K H a vs := .inl (.inr ⟨o, z1⟩)
    have no : ∀ b ∈ footA H its vs, (C.H0 b = none ∨ b ∈ C.Mu) ∧ NotOw (env.set j .no) σ H b := fun b m => by
      have m' : b ∈ foot H (.tp its) (.ref a) := by rw [fo]; exact List.mem_cons_of_mem _ m
      refine ⟨h3 b m', ⟨fun j2 es p z => ?_, fun j2 o' w p z m2 => ?_⟩⟩
      · obtain ⟨ne, p⟩ := set_ne (by intro z; cases z) p
        exact hd.nto j j2 _ es _ b hj p h1 z m'
      · obtain ⟨ne, p⟩ := set_ne (by intro z; cases z) p
        exact ne (hd.ntj j j2 _ o' _ w b hj p h1 z m' m2)
    have go : ∀ ob, its[k]? = some ob → (∀ w, okO F H ob w → (∀ b ∈ foot H ob w, (C.H0 b = none ∨ b ∈ C.Mu) ∧ NotOw (env.set j .no) σ H b) → D'.nx (σ.set i (some w)) H) → tAsg (tOp (rIxT X.K) (tVar j) (tC (.int (k : Nat)))) (gName i) D' σ H := fun ob e f => by
      obtain ⟨w, w1, w2, w3⟩ := okA_get z4 e
      exact ⟨_, h1, a, vs, _, w, rfl, rfl, sq, atI_nat w1, f w w2 fun b m => no b (w3 b m)⟩
    split at he
    · rename_i ds e
      cases he
      refine go _ e fun w ok nn => ?_
      simp only [okO] at ok
      obtain ⟨b, ws, rfl, p1, p2, p3⟩ := ok
      have nb := nn b (by simp [foot])
      exact q F _ H (Same.refl F) (g1.asgO p1 p2 p3 nb.1 nb.2 hm)
    · rename_i d e
      cases he
      refine go _ e fun w ok nn => ?_
      simp only [okO] at ok
      exact q F _ H (Same.refl F) (g1.asgF ok hm)
    · rename_i ob _ _ e
      cases he
      exact go _ e fun w ok nn => q F _ H (Same.refl F) (g1.asgN ok nn hm)
    · cases he
  · cases he
end
/-! ### calls that only look -/
section
variable {K : Fr} {C : FC} {F F' : Hp} {env env' : Env} {σ : St} {H H' : Hp}
theorem Hd.kpN (h : Hd K C F env σ H) (s : Same H H') {i : Nat} {o : Ob} {v : V} (q : env[i]? = some (.nt o)) (z : σ[i]? = some (some v)) : ∀ a ∈ foot H o v, H' a = H a := fun a m => by
  obtain ⟨w1, w2⟩ := okO_at o v (h.footN q z).1 a m
  cases e : H a with
  | none => exact absurd e w1
  | some u => exact s a u e
theorem Hd.more (h : Hd K C F env σ H) (s : Same H H') : Hd K C F env σ H' := by
  have fk : ∀ {i : Nat} {o : Ob} {v : V}, env[i]? = some (.nt o) → σ[i]? = some (some v) → foot H' o v = foot H o v := fun {i o v} q z => foot_keep o v (h.kpN s q z)
  refine ⟨h.ex.trans s, h.len, h.fz, fun i ds q => ?_, h.bw, h.sc, h.inj, fun a o z n => s a o (h.keep a o z n), fun a z => h.old a (Same.none s z), h.dom, h.mps, fun i o q => ?_, fun i j o o' w w' a q1 q2 z1 z2 m1 m2 => ?_, fun i j o ds w a q1 q2 z1 z2 m => ?_⟩
  · obtain ⟨a, vs, h1, h2, h3⟩ := h.ow i ds q
    exact ⟨a, vs, h1, s _ _ h2, h3⟩
  · obtain ⟨v, h1, h2, h3⟩ := h.nt i o q
    refine ⟨v, h1, okO_keep (Same.refl F) o v h2 fun a m => ⟨h.kpN s q h1 a m, (okO_at o v h2 a m).2⟩, ?_⟩
    rw [fk q h1]; exact h3
  · rw [fk q1 z1] at m1
    rw [fk q2 z2] at m2
    exact h.ntj i j o o' w w' a q1 q2 z1 z2 m1 m2
  · rw [fk q1 z1] at m
    exact h.nto i j o ds w a q1 q2 z1 z2 m
theorem Hd.stpMore (h : Hd K C F env σ H) (s : Same H H') : Stp F env σ H F env H' :=
  ⟨Same.refl F, fun a o h1 h2 _ => ⟨h1, s a o h2⟩, fun i ds q => ⟨ds, q⟩, fun a z => Same.none s z, fun i o q => ⟨o, q, fun v a z m _ => by rw [foot_keep o v (h.kpN s q z)] at m; exact m⟩⟩
def tArL (K : Fr) (C : FC) (as : List LAr) : TA := fun σ H Q => ∃ F env l env', Hd K C F env σ H ∧ evL as env = some (l, env') ∧
  ∀ F' H' vs, Stp F env σ H F' env' H' → Hd K C F' env' σ H' → ItsR F' σ l vs → Q vs H'
def JArL (X : Cx) (C : FC) (es : List Expr) (as : List LAr) : Prop := PA X es (tArL X.K C as)
/-- only to be looked at -/
def looks : List PK → Nat → Bool
  | [], 0 => true
  | .fz :: ks, n + 1 => looks ks n
  | .bw :: ks, n + 1 => looks ks n
  | _, _ => false
theorem mutA_looks : ∀ {ks : List PK} {n : Nat} {vs : List V}, looks ks n = true → mutA ks vs = []
  | [], _, vs, _ => by cases vs <;> rfl
  | .fz :: ks, n + 1, vs, h => by
    cases vs with
    | nil => rfl
    | cons v vs => cases v <;> exact mutA_looks (ks := ks) (n := n) h
  | .bw :: ks, n + 1, vs, h => by
    cases vs with
    | nil => rfl
    | cons v vs => cases v <;> exact mutA_looks (ks := ks) (n := n) h
  | .fz :: _, 0, _, h => by simp [looks] at h
  | .bw :: _, 0, _, h => by simp [looks] at h
  | .mt :: _, 0, _, h => by simp [looks] at h
  | .mt :: _, _ + 1, _, h => by simp [looks] at h
  | .sc :: _, 0, _, h => by simp [looks] at h
  | .sc :: _, _ + 1, _, h => by simp [looks] at h
theorem Hd.lookV (h : Hd K C F env σ H) {x : It} {v : V} {d : D} (r : ItR F σ x v) (e : itL env x = some d) : Rp H v d := by
  cases x with
  | d d' =>
    simp only [itL] at e
    cases e
    exact (show Rp F v d from r).up h.ex
  | r i =>
    have hv : σ[i]? = some (some v) := r
    simp only [itL] at e
    split at e
    · rename_i s q
      cases s with
      | no => simp only [slD'] at e; cases e
      | sc ds => simp only [slD'] at e; cases e
      | fz d' =>
        simp only [slD'] at e
        cases e
        obtain ⟨w, h1, h2⟩ := h.fz i _ q
        rw [hv] at h1; cases h1
        exact h2.up h.ex
      | ow ds =>
        simp only [slD'] at e
        cases e
        obtain ⟨a, vs, h1, h2, _, h4, _⟩ := h.ow i _ q
        rw [hv] at h1; cases h1
        exact .lst h2 (h4.up h.ex)
      | bw ds =>
        simp only [slD'] at e
        cases e
        obtain ⟨a, vs, h1, h2, h3, h4⟩ := h.bw i _ q
        rw [hv] at h1; cases h1
        exact .lst (h.keep _ _ h2 h3) (h4.up h.ex)
      | nt o =>
        simp only [slD'] at e
        cases e
        exact okO_frz h.ex o v (h.footN q hv).1 fun a _ => rfl
    · cases e
  | m i => simp only [itL] at e; cases e
  | s i => simp only [itL] at e; cases e
theorem arg_look {k : PK} {v : V} {d : D} (hk : k = .fz ∨ k = .bw) (r : Rp H v d) : ArgR K H H [] k v d := by
  rcases hk with rfl | rfl
  · exact r
  · by_cases e : ∃ ds, d = .list ds
    · obtain ⟨ds, rfl⟩ := e
      cases r with
      | lst h1 h2 => exact .inl ⟨_, _, _, rfl, rfl, h1, List.not_mem_nil, h2⟩
    · exact .inr ⟨fun ds z => e ⟨ds, z⟩, r⟩
theorem args_look (h : Hd K C F env σ H) : ∀ {ks : List PK} {l : List It} {vs : List V} {ds : List D}, looks ks l.length = true → ItsR F σ l vs → itLs env l = some ds → ArgsR K H H [] ks vs ds
  | [], [], _, _, _, .nil, e => by simp only [itLs] at e; cases e; exact .nil
  | [], _ :: _, _, _, hl, _, _ => by simp [looks] at hl
  | k :: ks, [], _, _, hl, _, _ => by cases k <;> simp [looks] at hl
  | k :: ks, x :: l, _, ds, hl, .cons r t, e => by
    simp only [itLs] at e
    split at e
    · rename_i d ds' e1 e2
      cases e
      cases k with
      | fz => exact .cons (arg_look (.inl rfl) (h.lookV r e1)) (args_look h (by simpa [looks] using hl) t e2)
      | bw => exact .cons (arg_look (.inr rfl) (h.lookV r e1)) (args_look h (by simpa [looks] using hl) t e2)
      | mt => simp [looks] at hl
      | sc => simp [looks] at hl
    · cases e
theorem evL_len : ∀ {as : List LAr} {env env' : Env} {l : List It}, evL as env = some (l, env') → l.length = as.length
  | [], _, _, _, h => by simp only [evL] at h; cases h; rfl
  | .e f :: as, env, env', l, h => by
    simp only [evL] at h
    split at h
    · cases h
    split at h
    · cases h
    split at h
    · cases h
    rename_i h3
    cases h
    rw [List.length_cons, List.length_cons, evL_len h3]
  | .v i :: as, env, env', l, h => by
    simp only [evL] at h
    split at h
    · cases h
    · cases h
    · split at h
      · cases h
      rename_i h3
      cases h
      rw [List.length_cons, List.length_cons, evL_len h3]
    · cases h
end
section
variable {X : Cx} {C : FC} {e : Expr} {es : List Expr} {f : M RV} {as : List LAr} {ks : List PK} {fn : FnS} {ce : Expr}
theorem jal_nil : JArL X C [] [] := pa_weak pa_nil fun σ H Q ⟨F, env, l, env', hd, he, q⟩ => by
  simp only [evL] at he
  cases he
  exact q F H [] Stp.refl hd .nil
theorem jal_e (ha : JE X C e f) (hr : JArL X C es as) (hs : starEach (e :: es) X.env = (false, eval e X.env) :: starEach es X.env := by rfl) : JArL X C (e :: es) (.e f :: as) := by
  refine pa_weak (pa_cons ha hr hs) fun σ H Q ⟨F, env, l, env', hd, he, q⟩ => ?_
  simp only [evL] at he
  split at he
  · cases he
  rename_i x e1 h1
  split at he
  · cases he
  rename_i d e2 h2
  split at he
  · cases he
  rename_i l' e3 h3
  cases he
  refine tJ.go hd h1 fun F1 H1 v s1 g1 r1 => ?_
  obtain ⟨F2, s2, g2, r2, _⟩ := g1.fzv hd s1 r1 h2
  exact ⟨F2, e2, l', env', g2, h3, fun F3 H3 vs s3 g3 r3 => q F3 H3 _ (s2.trans s3) g3 (.cons (ItR.up (x := .d d) s3.exF r2) r3)⟩
theorem jal_v {i : Nat} (ha : PE X e (tVar i)) (hr : JArL X C es as) (hs : starEach (e :: es) X.env = (false, eval e X.env) :: starEach es X.env := by rfl) : JArL X C (e :: es) (.v i :: as) := by
  refine pa_weak (pa_cons ha hr hs) fun σ H Q ⟨F, env, l, env', hd, he, q⟩ => ?_
  simp only [evL] at he
  split at he
  · cases he
  · cases he
  · rename_i s n1 n2 h0
    split at he
    · cases he
    rename_i l' e3 h3
    cases he
    have hv : ∃ v, σ[i]? = some (some v) := by
      cases s with
      | no => exact absurd rfl n1
      | sc ds => exact absurd rfl (n2 ds)
      | fz d => obtain ⟨v, z, _⟩ := hd.fz i d h0; exact ⟨v, z⟩
      | ow d => obtain ⟨a, _, z, _⟩ := hd.ow i d h0; exact ⟨_, z⟩
      | bw d => obtain ⟨a, _, z, _⟩ := hd.bw i d h0; exact ⟨_, z⟩
      | nt d => obtain ⟨v, z, _⟩ := hd.nt i d h0; exact ⟨v, z⟩
    obtain ⟨v, p1⟩ := hv
    exact ⟨v, p1, F, env, l', env', hd, h3, fun F3 H3 vs s3 g3 r3 => q F3 H3 _ s3 g3 (.cons (show ItR F3 σ (.r i) v from p1) r3)⟩
  · cases he
/-- h by pe_call -/
theorem je_callL (hf : looks ks as.length = true) (h : PE X ce (tCall (spJ X.K ks fn) [] E0 (tArL X.K C as))) : JE X C ce (eCallL fn as) := by
  refine pe_weak h fun σ H Q ⟨F, env, rv, env', hd, he, q⟩ => ?_
  simp only [eCallL] at he
  split at he
  · cases he
  rename_i l e1 h1
  split at he
  · cases he
  rename_i ds h2
  split at he
  · rename_i d h3
    split at he
    · rename_i h4
      cases he
      refine ⟨F, env, l, env', hd, h1, fun F1 H1 vs s1 g1 r1 => ?_⟩
      show spJ X.K ks fn (vs ++ []) H1 Q E0
      rw [List.append_nil]
      have mn : mutA ks vs = [] := mutA_looks hf
      refine ⟨H1, ds, .fz d, [], Same.refl H1, ?_, by rw [mn]; exact List.nodup_nil, h3, fun v F' H' s1' s2' kp old dom mu res => ?_⟩
      · rw [mn]
        exact args_look g1 (by rw [evL_len h1]; exact hf) r1 h2
      · have s := s1'.trans s2'
        refine q F1 H' v (s1.trans (g1.stpMore s)) (g1.more s) ?_
        have r : Rp F' v d := res
        cases d with
        | none => cases r; exact Rp.non
        | bool b => cases r; exact Rp.bl b
        | int i => cases r; exact Rp.int i
        | str x => cases r; exact Rp.str x
        | _ => cases h4
    · cases he
  · cases he
theorem j_callL {x : Str} {kg k : Nat} {p pos : Pos} {ps : List Str} (Cg : Cal X.prog X.w X.K X.mg X.base x kg ps ks fn) (hr : Room k X.A) (hk : kg ≤ k) (ha : JArL X C (e :: es) as) (hf : looks ks as.length = true) (hg : Gl X x := by rfl)
    (hdb : (x == ("__debug__" : Str)) = false := by decide) (he : starEach (e :: es) X.env = (false, eval e X.env) :: starEach es X.env := by rfl) (hpl : (backTo pos (starEach es X.env)).any (·.1) = false := by rfl) : JE X C (.Call (.Name x p) (e :: es) [] pos) (eCallL fn as) := by
  obtain ⟨fa, fd, F, hm, kp, hb⟩ := Cg
  exact je_callL hf (pe_call F (hr.mono hk) hg hm kp hb .nil pass0 ha hdb he hpl)
end
end J
/-! JH: t.index(x); defs whose first parameter is a list with parts. -/
namespace J
open PySem L2
section
variable {X : Cx} {C : FC} {a b c e : Expr} {es : List Expr} {pos : Pos} {fa fb fc f : M RV}
theorem slotT_index : Slot "tuple" "index" "tuple.index" := PySem.F.slot_tuple_index
def rIdx (H0 : Hp) : V → List V → Hp → VK → Prop := fun x vs H Q => ∃ a xs y j z, x = .ref a ∧ vs = [y] ∧ Tz H a xs ∧ xs.all flatV = true ∧ flatV y = true ∧ xs[j]? = some z ∧ eqV z y = true ∧
  (∀ (m : Nat) (z' : V), m < j → xs[m]? = some z' → eqV z' y = false) ∧ Q (.int (j : Nat)) H
theorem mt_idx {H0 : Hp} : MtR X "tuple.index" (rIdx H0) := by
  intro pins s σ H x vs v us Q I rx rv h
  obtain ⟨a, xs, y, j, z, rfl, rfl, ⟨ob, hH, hd⟩, fx, fy, hz, hzj, hno, q⟩ := h
  cases rx
  obtain ⟨u, rfl, ru⟩ := rv.one
  obtain ⟨e, _, its, r, ⟨o2, e2, c2, n, d2⟩⟩ := (show ObjOk X.prog X.w H s.heap a (.frz ob (.tup xs)) from I.hok a _ hH)
  rw [e] at e2
  cases e2
  obtain ⟨cls, dd, data, sl⟩ := ob
  simp only at c2 d2 hd
  subst c2 d2 hd
  obtain ⟨u0, hu, ru0⟩ := r.get hz
  obtain ⟨hjl, hje⟩ := List.getElem?_eq_some_iff.mp hu
  have hvl := r.length
  have hj : j < its.toArray.size := by simpa using hjl
  refine call_meets PySem.F.slot_tuple_index ⟨_, e, rfl⟩ PySem.F.entry_tuple_index (PySem.F.args_tuple_index_2 _ _) (TI.tuple_indexAt a its.toArray n none sl u (eqU y) j hj ?_ ?_) ⟨e, fun z hz => mem_eqAt ru fy r fx z (by simpa using hz), ?_⟩
  · have e1 : its.toArray[j] = u0 := by simpa using hje
    rw [e1, eqU_of ru0 (flat_at fx hz)]
    exact hzj
  · intro m hm hmj
    have hml : m < its.length := by simpa using hm
    have hmy : m < xs.length := by omega
    have hy' : xs[m]? = some xs[m] := List.getElem?_eq_getElem hmy
    obtain ⟨u2, hu2, ru2⟩ := r.get hy'
    obtain ⟨_, hme⟩ := List.getElem?_eq_some_iff.mp hu2
    have e1 : its.toArray[m] = u2 := by simpa using hme
    rw [e1, eqU_of ru2 (flat_at fx hy')]
    exact hno m _ hmj hy'
  · exact ⟨.int (j : Nat), H, I.tok _, ⟨_, rfl⟩, q⟩
theorem je_idx (h : ∀ H0, PE X e (tBMT (rIdx H0) (tJ X.K C fa) (tCons (tJ X.K C fb) tNil))) : JE X C e (eIdx fa fb) := by
  refine pe_weak (h fun _ => none) fun σ H Q ⟨F, env, rv, env', hd, he, q⟩ => ?_
  simp only [eIdx] at he
  split at he
  · rename_i ds e1 h1
    split at he
    · rename_i d e2 h2
      split at he
      · rename_i hf
        split at he
        · rename_i j hj
          cases he
          refine tJ.go hd h1 fun F1 H1 v s1 g1 r1 => ?_
          have r1' : Rp F1 v (.tuple ds) := r1
          cases r1' with
          | tup t1 t2 =>
            rename_i a xs
            refine ⟨⟨_, _, rfl, t1.up g1.ex⟩, tJ.go g1 h2 fun F2 H2 w s2 g2 r2 => ?_⟩
            have r2' : Rp F2 w d := r2
            have t3 := t2.up s2.exF
            obtain ⟨p0, p1, p2⟩ := List.findIdx?_eq_some_iff_getElem.mp hj
            obtain ⟨z, z1, z2⟩ := t3.getd (List.getElem?_eq_getElem p0)
            refine ⟨_, _, w, j, z, rfl, rfl, (t1.up s2.exF).up g2.ex, flt_all t3 hf.2, flt_V r2' hf.1, z1, ?_, fun m z' hm hz' => ?_, q F2 H2 _ (s1.trans s2) g2 (.int _)⟩
            · rw [flt_eq z2 r2' (List.all_eq_true.mp hf.2 _ (List.getElem_mem p0)) hf.1]
              exact p1
            · obtain ⟨d', d1, d2⟩ := t3.getv hz'
              have hm' : m < ds.length := by omega
              have e' := List.getElem?_eq_getElem hm'
              rw [e'] at d1
              cases d1
              rw [flt_eq d2 r2' (List.all_eq_true.mp hf.2 _ (List.getElem_mem hm')) hf.1]
              simpa using p2 m hm
        · cases he
      · cases he
    · cases he
  · cases he
end
/-! ### a def whose first parameter is a list with parts that it changes -/
section
variable {K : Fr} {C : FC} {F F' : Hp} {env env' : Env} {σ : St} {H H' : Hp}
theorem Hd.calledN (hd : Hd K C F env σ H) {i : Nat} {o o' : Ob} {v0 : V} (hi : env[i]? = some (.nt o)) (hv : σ[i]? = some (some v0))
    (s1 : Same F F') (s2 : Same F' H') (kp : ∀ a u, H a = some u → a ∉ foot H o v0 → H' a = some u) (old : ∀ a, H' a = none → H a = none) (dom : ∀ a, F' a ≠ none → F a ≠ none ∨ H a = none ∨ a ∈ foot H o v0)
    (ok : okO F' H' o' v0) (ft : ∀ a ∈ foot H' o' v0, H a = none ∨ a ∈ foot H o v0) :
    Hd K C F' (env.set i (.nt o')) σ H' ∧ Stp F env σ H F' (env.set i (.nt o')) H' ∧ ∀ a, H a = none → a ∉ foot H' o' v0 → NotOw (env.set i (.nt o')) σ H' a := by
  obtain ⟨ok0, fo⟩ := hd.footN hi hv
  have fn : ∀ a u, F a = none → H a = some u → a ∉ foot H o v0 → F' a = none := fun a u z1 z2 z3 => by
    cases e : F' a with
    | none => rfl
    | some w =>
      rcases dom a (by rw [e]; simp) with z | z | z
      · exact absurd z1 z
      · rw [z2] at z; cases z
      · exact absurd z z3
  have gow : ∀ {j : Nat} {ds : List D}, (env.set i (.nt o'))[j]? = some (.ow ds) → env[j]? = some (.ow ds) := fun {j ds} q => by
    rcases set_get q with ⟨_, e2, _⟩ | ⟨_, q⟩
    · cases e2
    · exact q
  have gnt : ∀ {j : Nat} {ob : Ob}, (env.set i (.nt o'))[j]? = some (.nt ob) → (i = j ∧ ob = o') ∨ (i ≠ j ∧ env[j]? = some (.nt ob)) := fun {j ob} q => by
    rcases set_get q with ⟨e1, e2, _⟩ | ⟨e1, q⟩
    · cases e2; exact .inl ⟨e1, rfl⟩
    · exact .inr ⟨e1, q⟩
  have kpa : ∀ {j : Nat} {ob : Ob} {v : V}, i ≠ j → env[j]? = some (.nt ob) → σ[j]? = some (some v) → ∀ a ∈ foot H ob v, H' a = H a ∧ F' a = none := fun {j ob v} ne q z a m => by
    obtain ⟨w1, w2⟩ := okO_at ob v (hd.footN q z).1 a m
    cases e : H a with
    | none => exact absurd e w1
    | some u =>
      have na : a ∉ foot H o v0 := fun m' => ne (hd.ntj i j o ob v0 v a hi q hv z m' m)
      exact ⟨kp a u e na, fn a u w2 e na⟩
  have kpN : ∀ {j : Nat} {ob : Ob} {v : V}, i ≠ j → env[j]? = some (.nt ob) → σ[j]? = some (some v) → foot H' ob v = foot H ob v := fun {j ob v} ne q z => foot_keep ob v fun a m => (kpa ne q z a m).1
  have olda : ∀ a ∈ foot H' o' v0, C.H0 a = none ∨ a ∈ C.Mu := fun a m => by
    rcases ft a m with z | z
    · exact .inl (hd.old a z)
    · exact fo a z
  have tmp : ∀ a u, F a = none → H a = some u → NotOw env σ H a → F' a = none ∧ H' a = some u := fun a u z1 z2 n => ⟨fn a u z1 z2 (n.nt i o v0 hi hv), kp a u z2 (n.nt i o v0 hi hv)⟩
  have il : i < env.length := (List.getElem?_eq_some_iff.mp hi).1
  refine ⟨⟨s2, by rw [List.length_set]; exact hd.len, fun j d q => ?_, fun j ds q => ?_, fun j ds q => ?_, fun j ds q => ?_, fun j k ds es a q1 q2 p1 p2 => hd.inj j k ds es a (gow q1) (gow q2) p1 p2, fun a u z n => ?_, fun a z => hd.old a (old a z), fun a z => ?_, hd.mps, fun j ob q => ?_, fun j k ob ob' w w' a q1 q2 z1 z2 m1 m2 => ?_, fun j k ob ds w a q1 q2 z1 z2 m => ?_⟩, ⟨s1, tmp, fun j ds q => ⟨ds, gow q⟩, old, fun j ob q => ?_⟩, fun a z nf => ⟨fun j ds q w => ?_, fun j ob w q p m => ?_⟩⟩
  · rcases set_get q with ⟨_, e2, _⟩ | ⟨_, q⟩
    · cases e2
    · obtain ⟨v, p1, p2⟩ := hd.fz j d q
      exact ⟨v, p1, p2.up s1⟩
  · obtain ⟨a, vs, p1, p2, p3, p4, p5⟩ := hd.ow j ds (gow q)
    have na : a ∉ foot H o v0 := hd.nto i j o ds v0 a hi (gow q) hv p1
    exact ⟨a, vs, p1, kp a _ p2 na, fn a _ p3 p2 na, p4.up s1, p5⟩
  · rcases set_get q with ⟨_, e2, _⟩ | ⟨_, q⟩
    · cases e2
    · obtain ⟨a, vs, p1, p2, p3, p4⟩ := hd.bw j ds q
      exact ⟨a, vs, p1, p2, p3, p4.up s1⟩
  · rcases set_get q with ⟨_, e2, _⟩ | ⟨_, q⟩
    · cases e2
    · exact hd.sc j ds q
  · refine kp a u (hd.keep a u z n) fun m => ?_
    rcases fo a m with w | w
    · rw [z] at w; cases w
    · exact n w
  · rcases dom a z with p | p | p
    · exact hd.dom a p
    · exact .inr (.inl (hd.old a p))
    · exact .inr (fo a p)
  · rcases gnt q with ⟨rfl, rfl⟩ | ⟨ne, q⟩
    · exact ⟨v0, hv, ok, olda⟩
    · obtain ⟨v, h1, h2, h3⟩ := hd.nt j ob q
      refine ⟨v, h1, okO_keep s1 ob v h2 (kpa ne q h1), ?_⟩
      rw [kpN ne q h1]; exact h3
  · have cross : ∀ {k : Nat} {ob : Ob} {w : V}, i ≠ k → env[k]? = some (.nt ob) → σ[k]? = some (some w) → ∀ a ∈ foot H' o' v0, a ∉ foot H' ob w := fun {k ob w} ne q z a m m' => by
      rw [kpN ne q z] at m'
      rcases ft a m with y | y
      · exact (okO_at ob w (hd.footN q z).1 a m').1 y
      · exact ne (hd.ntj i k o ob v0 w a hi q hv z y m')
    rcases gnt q1 with ⟨rfl, rfl⟩ | ⟨ne1, r1⟩
    · rcases gnt q2 with ⟨e, _⟩ | ⟨ne2, r2⟩
      · exact e
      · rw [hv] at z1; cases z1
        exact absurd m2 (cross ne2 r2 z2 a m1)
    · rcases gnt q2 with ⟨rfl, rfl⟩ | ⟨ne2, r2⟩
      · rw [hv] at z2; cases z2
        exact absurd m1 (cross ne1 r1 z1 a m2)
      · rw [kpN ne1 r1 z1] at m1
        rw [kpN ne2 r2 z2] at m2
        exact hd.ntj j k ob ob' w w' a r1 r2 z1 z2 m1 m2
  · rcases gnt q1 with ⟨rfl, rfl⟩ | ⟨ne1, q1⟩
    · rw [hv] at z1; cases z1
      obtain ⟨b, vs, p1, p2, _⟩ := hd.ow k ds (gow q2)
      rw [z2] at p1; cases p1
      rcases ft a m with y | y
      · rw [p2] at y; cases y
      · exact hd.nto i k o ds v0 a hi (gow q2) hv z2 y
    · rw [kpN ne1 q1 z1] at m
      exact hd.nto j k ob ds w a q1 (gow q2) z1 z2 m
  · rcases gnt q with ⟨rfl, rfl⟩ | ⟨ne, q⟩
    · refine ⟨o, hi, fun v a z m hx => ?_⟩
      rw [hv] at z; cases z
      rcases ft a m with y | y
      · exact absurd y hx
      · exact y
    · exact ⟨ob, q, fun v a z m _ => by rw [kpN ne q z] at m; exact m⟩
  · obtain ⟨b, vs, p1, p2, _⟩ := hd.ow j ds (gow q)
    rw [w] at p1; cases p1
    rw [p2] at z; cases z
  · rcases gnt q with ⟨rfl, rfl⟩ | ⟨ne, q⟩
    · rw [hv] at p; cases p
      exact nf m
    · rw [kpN ne q p] at m
      exact (okO_at ob w (hd.footN q p).1 a m).1 z
end
def spN (K : Fr) (ks : List PK) (fn : FnN) : Sp := fun ws H Q _ => ∃ F v0 vs os ds d os', ws = v0 :: vs ∧ Same F H ∧ okO F H (.ls os) v0 ∧ ArgsR K F H (foot H (.ls os) v0) ks vs ds ∧ fn os ds = some (d, os') ∧
  ∀ v F' H', Same F F' → Same F' H' → (∀ a u, H a = some u → a ∉ foot H (.ls os) v0 → H' a = some u) → (∀ a, H' a = none → H a = none) → (∀ a, F' a ≠ none → F a ≠ none ∨ H a = none ∨ a ∈ foot H (.ls os) v0) →
    okO F' H' (.ls os') v0 → (∀ a ∈ foot H' (.ls os') v0, H a = none ∨ a ∈ foot H (.ls os) v0) → Rp F' v d → Q v H'
def CalN (P : Program) (w : World) (K : Fr) (mg : Str → Option Value) (base : Heap) (x : Str) (k : Nat) (ps : List Str) (ks : List PK) (fn : FnN) : Prop :=
  ∃ (fa : Addr) (fd : FuncData), FnOk P w K mg base CX0 k fa fd ps (spN K ks fn) ∧ mg x = some (.ref fa) ∧ PySem.W.keepIn K (.ref fa) = true ∧ Binds K fd ps []
/-- arguments that are only looked at -/
def looksA : List PK → List Ar → Bool
  | [], [] => true
  | .fz :: ks, .fz _ :: as => looksA ks as
  | .bw :: ks, .bw _ :: as => looksA ks as
  | _, _ => false
theorem looksA_fits : ∀ {ks : List PK} {as : List Ar}, looksA ks as = true → fits ks as = true
  | [], [], _ => rfl
  | [], _ :: _, h => by simp [looksA] at h
  | k :: ks, [], h => by cases k <;> simp [looksA] at h
  | k :: ks, a :: as, h => by
    cases k <;> cases a <;> simp [looksA] at h
    · simpa [fits] using looksA_fits h
    · simpa [fits] using looksA_fits h
section
variable {X : Cx} {C : FC} {as : List Ar} {ks : List PK} {fn : FnN} {ce : Expr} {i : Nat}
theorem je_callN (hf : looksA ks as = true) (h : PE X ce (tCall (spN X.K ks fn) [] E0 (tCons (tVar i) (tArJ X.K C as)))) : JE X C ce (eCallN fn i as) := by
  refine pe_weak h fun σ H Q ⟨F, env, rv, env', hd, he, q⟩ => ?_
  simp only [eCallN] at he
  split at he
  · rename_i os0 h0
    split at he
    · cases he
    rename_i l e1 h1
    split at he
    · rename_i os h2
      split at he
      · cases he
      rename_i ds h3
      obtain ⟨v0, p1, _⟩ := hd.nt i _ h0
      split at he
      · rename_i d os' h4
        cases he
        refine ⟨v0, p1, F, env, l, e1, hd, h1, fun F1 H1 vs s1 g1 r1 => ?_⟩
        show spN X.K ks fn ((v0 :: vs) ++ []) H1 Q E0
        rw [List.append_nil]
        obtain ⟨ok, fo⟩ := g1.footN h2 p1
        have hfi := fits_of h1 (looksA_fits hf)
        refine ⟨F1, v0, vs, os, ds, d, os', rfl, g1.ex, ok, args_of g1 (fun a m => ⟨(okO_at _ v0 ok a m).2, fo a m⟩) (fun j hj es a z p m => ?_) hfi r1 h3, h4, fun v F' H' s1' s2' kp old dom ok' ft res => ?_⟩
        · exact g1.nto i j _ es v0 a h2 z p1 p m
        · obtain ⟨g2, s2, nn⟩ := g1.calledN h2 p1 s1' s2' kp old dom ok' ft
          exact q F' H' v (s1.trans s2) g2 res
      · cases he
    · cases he
  · cases he
end
section
variable {P : Program} {w : World} {K : Fr} {mg : Str → Option Value} {base : Heap}
theorem mutA_of_looks : ∀ {ks : List PK} {vs : List V}, (∀ k ∈ ks, k = .fz ∨ k = .bw) → mutA ks vs = []
  | [], vs, _ => by cases vs <;> rfl
  | k :: ks, [], h => by rcases h k List.mem_cons_self with rfl | rfl <;> rfl
  | k :: ks, v :: vs, h => by
    have ih := mutA_of_looks (vs := vs) fun k hk => h k (List.mem_cons_of_mem _ hk)
    rcases h k List.mem_cons_self with rfl | rfl <;> cases v <;> exact ih
theorem ini_looks : ∀ {ks : List PK} {ds : List D} {env : Env}, (∀ k ∈ ks, k = .fz ∨ k = .bw) → ini ks ds = some env → ∀ (i : Nat) (s : Sl), env[i]? = some s → (∀ o, s ≠ .nt o) ∧ ∀ es, s ≠ .ow es
  | [], [], _, _, h, i, s, q => by simp only [ini] at h; cases h; simp at q
  | [], _ :: _, _, _, h, _, _, _ => by simp [ini] at h
  | k :: ks, [], _, hk, h, _, _, _ => by rcases hk k List.mem_cons_self with rfl | rfl <;> simp [ini] at h
  | k :: ks, d :: ds, env, hk, h, i, s, q => by
    have ih : ∀ {e0 : Env}, ini ks ds = some e0 → _ := fun {e0} z => ini_looks (env := e0) (fun k hk' => hk k (List.mem_cons_of_mem _ hk')) z
    have go : ∀ s0 : Sl, (∀ o, s0 ≠ .nt o) → (∀ es, s0 ≠ .ow es) → (ini ks ds).map (s0 :: ·) = some env → (∀ o, s ≠ .nt o) ∧ ∀ es, s ≠ .ow es := fun s0 n1 n2 z => by
      cases w : ini ks ds with
      | none => rw [w] at z; cases z
      | some e0 =>
        rw [w] at z
        cases z
        cases i with
        | zero => simp at q; subst q; exact ⟨n1, n2⟩
        | succ i => exact ih w i s (by simpa using q)
    rcases hk k List.mem_cons_self with rfl | rfl
    · exact go (.fz d) (fun _ z => nomatch z) (fun _ z => nomatch z) h
    · cases d with
      | list xs => exact go (.bw xs) (fun _ z => nomatch z) (fun _ z => nomatch z) h
      | _ => exact go (.fz _) (fun _ z => nomatch z) (fun _ z => nomatch z) h
theorem runN {N : List Str} {n : Nat} {ks : List PK} {f : SM} {ws : List V} {H : Hp} {Q : VK} {E : XK} (hk : ∀ k ∈ ks, k = .fz ∨ k = .bw) (hN : N.length = ks.length + 1 + n) (h : spN K ks (mkFnN ks n f) ws H Q E) :
    ∃ C : FC, C.mp = [0] ∧ sJ K C f { nx := fun _ H' => Q .non H', rt := Q } (L2.start N ws) H := by
  obtain ⟨F, v0, vs, os, ds, r, os', rfl, sm, ok, ar, he, q⟩ := h
  refine ⟨⟨H, F, foot H (.ls os) v0, [0], fun _ _ _ _ => False, fun _ => none⟩, rfl, ?_⟩
  unfold mkFnN at he
  split at he
  · cases he
  rename_i e0 h0
  have ok' := ok
  simp only [okO] at ok'
  obtain ⟨a0, vs0, rfl, ha0, _⟩ := ok'
  have fo : foot H (.ls os) (V.ref a0) = a0 :: footA H os vs0 := by simp only [foot, ha0]
  obtain ⟨hl, hg⟩ := ini_get (Mu := foot H (.ls os) (V.ref a0)) ar (fun a m => by rw [mutA_of_looks hk] at m; exact absurd m (List.not_mem_nil)) h0
  have hlk := ini_looks hk h0
  obtain ⟨l1, l2⟩ := ar.len
  have st0 : (L2.start N (V.ref a0 :: vs))[0]? = some (some (V.ref a0)) := by unfold L2.start; rfl
  have get : ∀ {i : Nat} {s : Sl}, (Sl.nt (.ls os) :: (e0 ++ List.replicate n Sl.no))[i]? = some s → s ≠ .no → (i = 0 ∧ s = .nt (.ls os)) ∨ ((∀ o, s ≠ .nt o) ∧ (∀ es, s ≠ .ow es) ∧ ∃ v, (L2.start N (V.ref a0 :: vs))[i]? = some (some v) ∧ SlR K F H (foot H (.ls os) (V.ref a0)) s v) := fun {i s} q n0 => by
    cases i with
    | zero => simp at q; exact .inl ⟨rfl, q.symm⟩
    | succ i =>
      rw [List.getElem?_cons_succ] at q
      rcases Nat.lt_or_ge i e0.length with hi | hi
      · rw [List.getElem?_append_left hi] at q
        obtain ⟨v, h1, h2⟩ := hg i s q
        obtain ⟨n1, n2⟩ := hlk i s q
        refine .inr ⟨n1, n2, v, ?_, h2⟩
        unfold L2.start
        rw [List.map_cons, List.cons_append, List.getElem?_cons_succ, List.getElem?_append_left (by rw [List.length_map]; omega), List.getElem?_map, h1]
        rfl
      · rw [List.getElem?_append_right hi, List.getElem?_replicate] at q
        split at q
        · cases q; exact absurd rfl n0
        · cases q
  have h1 : Hd K ⟨H, F, foot H (.ls os) (V.ref a0), [0], fun _ _ _ _ => False, fun _ => none⟩ F (Sl.nt (.ls os) :: (e0 ++ List.replicate n .no)) (L2.start N (V.ref a0 :: vs)) H := by
    have only : ∀ {i : Nat} {o : Ob}, (Sl.nt (.ls os) :: (e0 ++ List.replicate n Sl.no))[i]? = some (.nt o) → i = 0 ∧ o = .ls os := fun {i o} q => by
      rcases get q (fun z => nomatch z) with ⟨z1, z2⟩ | ⟨z, _⟩
      · cases z2; exact ⟨z1, rfl⟩
      · exact absurd rfl (z o)
    have now : ∀ {i : Nat} {es : List D}, (Sl.nt (.ls os) :: (e0 ++ List.replicate n Sl.no))[i]? = some (.ow es) → False := fun {i o} q => by
      rcases get q (fun z => nomatch z) with ⟨_, z2⟩ | ⟨_, z, _⟩
      · cases z2
      · exact absurd rfl (z o)
    refine ⟨sm, ?_, fun i d q => ?_, fun i es q => (now q).elim, fun i es q => ?_, fun i es q => ?_, fun i j es es' a q1 _ _ _ => (now q1).elim, fun _ _ q _ => q, fun _ q => q, fun _ q => .inl q, fun k i a q1 q2 => ?_, fun i o q => ?_, fun i j o o' w w' a q1 q2 _ _ _ _ => ?_, fun i j o ds' w a _ q2 => (now q2).elim⟩
    · unfold L2.start
      simp only [List.length_append, List.length_cons, List.length_map, List.length_replicate]
      omega
    · rcases get q (fun z => nomatch z) with ⟨_, z2⟩ | ⟨_, _, v, z1, z2⟩
      · cases z2
      · exact ⟨v, z1, z2⟩
    · rcases get q (fun z => nomatch z) with ⟨_, z2⟩ | ⟨_, _, v, z1, z2⟩
      · cases z2
      · obtain ⟨a, ws, rfl, y1, y2, y3⟩ := z2
        exact ⟨a, ws, z1, y1, y2, y3⟩
    · rcases get q (fun z => nomatch z) with ⟨_, z2⟩ | ⟨_, _, v, z1, z2⟩
      · cases z2
      · obtain ⟨a, ns, rfl, y1, y2⟩ := z2
        exact ⟨a, ns, z1, y1, y2⟩
    · cases k with
      | zero =>
        simp at q1
        subst q1
        simp only [fo, List.getElem?_cons_zero] at q2
        cases q2
        exact st0
      | succ k => simp at q1
    · obtain ⟨rfl, rfl⟩ := only q
      exact ⟨_, st0, ok, fun a m => .inr m⟩
    · rw [(only q1).1, (only q2).1]
  have done : ∀ {rest : Env} {os' : List Ob} {F1 : Hp} {σ1 : St} {H1 : Hp} {d : D} {v : V}, Same F F1 → Hd K ⟨H, F, foot H (.ls os) (V.ref a0), [0], fun _ _ _ _ => False, fun _ => none⟩ F1 (.nt (.ls os') :: rest) σ1 H1 → Rp F1 v d →
      (∀ v F' H', Same F F' → Same F' H' → (∀ a u, H a = some u → a ∉ foot H (.ls os) (V.ref a0) → H' a = some u) → (∀ a, H' a = none → H a = none) → (∀ a, F' a ≠ none → F a ≠ none ∨ H a = none ∨ a ∈ foot H (.ls os) (V.ref a0)) →
        okO F' H' (.ls os') (V.ref a0) → (∀ a ∈ foot H' (.ls os') (V.ref a0), H a = none ∨ a ∈ foot H (.ls os) (V.ref a0)) → Rp F' v d → Q v H') → Q v H1 := fun {rest os' F1 σ1 H1 d v} s1 g1 rt q => by
    have z0 : σ1[0]? = some (some (V.ref a0)) := g1.mps 0 0 a0 rfl (by rw [fo]; rfl)
    obtain ⟨k1, k2⟩ := g1.footN (i := 0) rfl z0
    exact q v F1 H1 s1 g1.ex g1.keep g1.old g1.dom k1 k2 rt
  split at he
  · rename_i os1 e1 h2
    cases he
    exact ⟨F, _, _, h1, h2, fun F1 σ1 H1 s1 g1 => done s1 g1 Rp.non q⟩
  · rename_i d1 os1 e1 h2
    cases he
    exact ⟨F, _, _, h1, h2, fun F1 σ1 H1 v s1 g1 rt => done s1 g1 rt q⟩
  · rename_i d1 os1 e1 h2
    cases he
    refine ⟨F, _, _, h1, h2, fun F1 σ1 H1 v s1 g1 rt => ?_⟩
    obtain ⟨a, ws, rfl, p1, p2, p3, p4, p5⟩ := rt
    have s2 := same_upd (o := .lst ws) p2
    exact done (s1.trans s2) (g1.freeze p1 p2 p4 p5) (.lst upd_same (p3.up s2)) q
  · cases he
theorem fnN {x qual : Str} {st : Stmt} {fa : Addr} {fd : FuncData} {N ps : List Str} {k n : Nat} {ks : List PK} {f : SM} (Fu : Fun K x qual st fa fd) (S : FnScope N ps (defScope st)) (hk : ∀ k ∈ ks, k = .fz ∨ k = .bw) (hl : ps.length = ks.length + 1) (hN : N.length = ks.length + 1 + n)
    (hb : ∀ (cdv : Value) (A : Around) (outer : List PySem.Env) (s : Shared) (H : Hp) (E : XK) (C : FC), Room k (A.deeper (PyProof.Rows.envOfC qual (defScope st) s.heap.objs.size fa cdv)) → C.mp = [0] →
      JSs (cxOf CX0 P w K mg base N qual (defScope st) fa cdv A outer s H E).nox C (defBody st) f) :
    FnOk P w K mg base CX0 (k + 1) fa fd ps (spN K ks (mkFnN ks n f)) := by
  refine Fu.ok S (fun vs H Q E h => ?_) fun cdv A outer s H vs Q E hr h => ?_
  · obtain ⟨F, v0, vs, os, ds, d, os', rfl, _, _, ar, _⟩ := h
    rw [List.length_cons, ar.len.1, hl]
  · obtain ⟨C, hC, z⟩ := runN hk hN h
    exact ⟨_, hb cdv A outer s H E C hr hC, z⟩
end
section
variable {X : Cx} {C : FC} {a b e : Expr} {es : List Expr} {pos p : Pos} {fa fb : M RV} {as : List Ar} {k : Nat}
theorem j_callN {x : Str} {kg : Nat} {ps : List Str} {ks : List PK} {fn : FnN} {i : Nat} (Cg : CalN X.prog X.w X.K X.mg X.base x kg ps ks fn) (hr : Room k X.A) (hk : kg ≤ k) (hv : PE X e (tVar i)) (ha : JAr X C es as) (hf : looksA ks as = true) (hg : Gl X x := by rfl)
    (hdb : (x == ("__debug__" : Str)) = false := by decide) (he : starEach (e :: es) X.env = (false, eval e X.env) :: starEach es X.env := by rfl) (hpl : (backTo pos (starEach es X.env)).any (·.1) = false := by rfl) : JE X C (.Call (.Name x p) (e :: es) [] pos) (eCallN fn i as) := by
  obtain ⟨fa, fd, F, hm, kp, hb⟩ := Cg
  exact je_callN hf (pe_call F (hr.mono hk) hg hm kp hb .nil pass0 (pa_cons hv ha he) hdb he hpl)
end
end J
/-! JI: a draw from a bag [cells, count]. -/
namespace J
open PySem L2
theorem pss_ex {X : Cx} {sts : List Stmt} {f : SM} {mp : List Nat} (h : ∀ C : FC, C.mp = mp → JSs X C sts f) : PSs X sts (fun D σ H => ∃ C : FC, C.mp = mp ∧ sJ X.K C f D σ H) :=
  ⟨fun pins s σ H D I ⟨C, hC, q⟩ => (h C hC).run pins s σ H D I q⟩
section
variable {P : Program} {w : World} {K : Fr} {mg : Str → Option Value} {base : Heap}
theorem fnDraw {x qual : Str} {st : Stmt} {fa : Addr} {fd : FuncData} {N ps : List Str} {k n : Nat} {f : SM} (Fu : Fun K x qual st fa fd) (S : FnScope N ps (defScope st)) (hl : ps.length = 2) (hN : N.length = 4 + n)
    (hb : ∀ (cdv : Value) (A : Around) (outer : List PySem.Env) (s : Shared) (H : Hp) (E : XK), Room k (A.deeper (PyProof.Rows.envOfC qual (defScope st) s.heap.objs.size fa cdv)) →
      PSs (cxOf CX0 P w K mg base N qual (defScope st) fa cdv A outer s H E).nox (defBody st) (tSeq (tAsg (tOp (rIxL K) (tVar 0) (tC (.int 0))) (gName 2)) (tSeq (tAsg (tOp (rIxL K) (tVar 0) (tC (.int 1))) (gName 3))
        (tSeq (tAsg (tOp (rI0 fun i j => V.int (i + j)) (tVar 3) (tC (.int 1))) (gSub (tVar 0) (tC (.int 1)) rSetL)) (fun D σ H => ∃ C : FC, C.mp = [2] ∧ sJ K C f D σ H))))) :
    FnOk P w K mg base CX0 (k + 1) fa fd ps (spN K [.bw] (mkDraw n f)) := by
  refine Fu.ok S (fun vs H Q E h => ?_) fun cdv A outer s H vs Q E hr h => ?_
  · obtain ⟨F, v0, vs, os, ds, d, os', rfl, _, _, ar, _⟩ := h
    rw [List.length_cons, ar.len.1, hl]
    rfl
  · refine ⟨_, hb cdv A outer s H E hr, ?_⟩
    obtain ⟨F, v0, vs, os, ds, d, os', rfl, sm, ok, ar, he, q⟩ := h
    unfold mkDraw at he
    split at he
    · rename_i cells count m
      split at he
      · rename_i d1 s0 s1 cells' rest he'
        cases he
        simp only [okO, okA, foot] at ok
        obtain ⟨a, ws, rfl, ha, fa', oka, nf⟩ := ok
        cases ws with
        | nil => simp only [okA] at oka
        | cons w1 ws =>
          simp only [okA] at oka
          obtain ⟨ok1, ok2, _⟩ := oka
          cases ws with
          | nil => simp only [okA] at ok2
          | cons w2 ws =>
            simp only [okA, okO] at ok1 ok2
            cases ws with
            | cons _ _ => exact ok2.2.1.elim
            | nil =>
              obtain ⟨b, cs, rfl, hb', fb, rc⟩ := ok1
              have r2 : Rp F w2 (.int count) := ok2.1
              cases r2
              have ne : b ≠ a := fun e => nf (by simp [footA, foot, e])
              cases ar with
              | cons a1 t =>
                cases t
                rename_i v1
                have e1 : v1 = .int m := by
                  rcases a1 with ⟨_, _, _, _, z, _⟩ | ⟨_, z⟩
                  · cases z
                  · cases z; rfl
                subst e1
                have fo : foot H (.ls [.fl cells, .fz (.int count)]) (V.ref a) = [a, b] := by simp [foot, ha, footA]
                have st : L2.start N [V.ref a, .int m] = some (V.ref a) :: some (.int m) :: none :: none :: List.replicate n none := by
                  unfold L2.start
                  have : N.length - 2 = n + 2 := by omega
                  simp [this, List.replicate_succ]
                rw [st]
                refine ⟨V.ref a, rfl, a, _, 0, V.ref b, rfl, rfl, SqL.of ha, rfl, V.ref a, rfl, a, _, 1, .int count, rfl, rfl, SqL.of ha, rfl, .int count, rfl, count, 1, rfl, rfl, V.ref a, rfl, a, _, 1, 1, rfl, rfl, ha, rfl, ?_⟩
                show ∃ C : FC, C.mp = [2] ∧ sJ K C f _ (some (V.ref a) :: some (.int m) :: some (V.ref b) :: some (.int count) :: List.replicate n none) (upd H a (.lst [V.ref b, .int (count + 1)]))
                generalize hH3 : upd H a (.lst [V.ref b, .int (count + 1)]) = H3
                have h3a : H3 a = some (.lst [V.ref b, .int (count + 1)]) := by rw [← hH3]; exact upd_same
                have h3o : ∀ c, c ≠ a → H3 c = H c := fun c hc => by rw [← hH3]; exact upd_ne hc
                have ex3 : Same F H3 := fun c o z => by
                  rw [h3o c fun e => by rw [e, fa'] at z; cases z]
                  exact sm c o z
                have rep : ∀ {j : Nat} {s : Sl}, (List.replicate n Sl.no)[j]? = some s → s = .no := fun {j s} z => by
                  rw [List.getElem?_replicate] at z
                  split at z
                  · cases z; rfl
                  · cases z
                refine ⟨⟨H3, F, [b], [2], fun _ _ _ _ => False, fun _ => none⟩, rfl, F, _, _, ?_, he', fun F1 σ1 H1 v s1 g1 rt => ?_⟩
                · have cs4 : ∀ {j : Nat} {s : Sl}, (Sl.no :: .fz (.int m) :: .ow cells :: .fz (.int count) :: List.replicate n Sl.no)[j]? = some s → (j = 1 ∧ s = .fz (.int m)) ∨ (j = 2 ∧ s = .ow cells) ∨ (j = 3 ∧ s = .fz (.int count)) ∨ s = .no := fun {j s} z => by
                    match j, z with
                    | 0, z => simp at z; exact .inr (.inr (.inr z.symm))
                    | 1, z => simp at z; exact .inl ⟨rfl, z.symm⟩
                    | 2, z => simp at z; exact .inr (.inl ⟨rfl, z.symm⟩)
                    | 3, z => simp at z; exact .inr (.inr (.inl ⟨rfl, z.symm⟩))
                    | j + 4, z => exact .inr (.inr (.inr (rep (by simpa using z))))
                  refine ⟨ex3, by simp, fun j d z => ?_, fun j ds z => ?_, fun j ds z => ?_, fun j ds z => ?_, fun i j ds es c z1 z2 _ _ => ?_, fun c o z _ => z, fun c z => z, fun c z => .inl z, fun k i c z1 z2 => ?_, fun j o z => ?_, fun i j o o' w w' c z1 => ?_, fun i j o ds w c z1 => ?_⟩
                  · rcases cs4 z with ⟨rfl, z⟩ | ⟨_, z⟩ | ⟨rfl, z⟩ | z
                    · cases z; exact ⟨_, rfl, .int _⟩
                    · cases z
                    · cases z; exact ⟨_, rfl, .int _⟩
                    · cases z
                  · rcases cs4 z with ⟨_, z⟩ | ⟨rfl, z⟩ | ⟨_, z⟩ | z
                    · cases z
                    · cases z; exact ⟨b, cs, rfl, (h3o b ne).trans hb', fb, rc, .inr List.mem_cons_self⟩
                    · cases z
                    · cases z
                  · rcases cs4 z with ⟨_, z⟩ | ⟨_, z⟩ | ⟨_, z⟩ | z <;> cases z
                  · rcases cs4 z with ⟨_, z⟩ | ⟨_, z⟩ | ⟨_, z⟩ | z <;> cases z
                  · rcases cs4 z1 with ⟨_, z⟩ | ⟨e1, z⟩ | ⟨_, z⟩ | z
                    · cases z
                    · rcases cs4 z2 with ⟨_, z⟩ | ⟨e2, z⟩ | ⟨_, z⟩ | z
                      · cases z
                      · rw [e1, e2]
                      · cases z
                      · cases z
                    · cases z
                    · cases z
                  · cases k with
                    | zero => simp at z1 z2; subst z1 z2; rfl
                    | succ k => simp at z1
                  · rcases cs4 z with ⟨_, z⟩ | ⟨_, z⟩ | ⟨_, z⟩ | z <;> cases z
                  · rcases cs4 z1 with ⟨_, z⟩ | ⟨_, z⟩ | ⟨_, z⟩ | z <;> cases z
                  · rcases cs4 z1 with ⟨_, z⟩ | ⟨_, z⟩ | ⟨_, z⟩ | z <;> cases z
                · have na : a ∉ [b] := fun e => ne (List.mem_singleton.mp e).symm
                  have k1 := g1.keep a _ h3a na
                  have z0 : σ1[2]? = some (some (V.ref b)) := g1.mps 0 2 b rfl rfl
                  obtain ⟨b', cs', y1, y2, y3, y4, _⟩ := g1.ow 2 cells' rfl
                  rw [z0] at y1; cases y1
                  have f1a : F1 a = none := by
                    cases e : F1 a with
                    | none => rfl
                    | some u =>
                      rcases g1.dom a (by rw [e]; simp) with z | z | z
                      · exact absurd fa' z
                      · rw [show H3 a = none from z] at h3a; cases h3a
                      · exact absurd z na
                  refine q v F1 H1 s1 g1.ex (fun c u z1 z2 => ?_) (fun c z => ?_) (fun c z => ?_) ?_ (fun c m => ?_) rt
                  · rw [fo] at z2
                    simp only [List.mem_cons, List.not_mem_nil, or_false, not_or] at z2
                    exact g1.keep c u (by show H3 c = some u; rw [h3o c z2.1]; exact z1) (by simpa using z2.2)
                  · have := g1.old c z
                    by_cases e : c = a
                    · rw [e] at this; rw [show H3 a = none from this] at h3a; cases h3a
                    · rw [← h3o c e]; exact this
                  · rw [fo]
                    rcases g1.dom c z with y | y | y
                    · exact .inl y
                    · by_cases e : c = a
                      · exact .inr (.inr (by simp [e]))
                      · exact .inr (.inl (by rw [← h3o c e]; exact y))
                    · exact .inr (.inr (by rw [List.mem_singleton.mp y]; simp))
                  · simp only [okO]
                    refine ⟨a, [V.ref b, .int (count + 1)], rfl, k1, f1a, ?_, ?_⟩
                    · simp only [okA, okO, foot, footA]
                      exact ⟨⟨b, cs', rfl, y2, y3, y4⟩, ⟨.int _, trivial, fun _ h => absurd h List.not_mem_nil⟩, fun _ _ h => by simp at h⟩
                    · simp only [foot, footA]
                      simpa using fun e => ne e.symm
                  · have : foot H1 (.ls [.fl cells', .fz (.int (count + 1))]) (V.ref a) = [a, b] := by simp [foot, k1, footA]
                    rw [this] at m
                    rw [fo]
                    exact .inr m
      · cases he
    · cases he
end
end J
/-! JL: what may raise. -/
namespace J
open PySem L2
/-! ### raising -/
/-- what follows a raising expression -/
def xPost (K : Fr) (C : FC) (F : Hp) (c : EC) (env' : Env) : Prop := ∀ F' σ' H' cls, Same F F' → Hd K C F' env' σ' H' → C.cl c.nm = some cls → c.fs = [] → C.wx cls none σ' H'
def txJ (K : Fr) (C : FC) (f : MX RV) : TE := fun σ H Q => ∃ F env ev, Hd K C F env σ H ∧ f env = some ev ∧
  match ev with
  | .ok r env' => ∀ F' H' v, Stp F env σ H F' env' H' → Hd K C F' env' σ H' → RVR H F' env' σ H' r v → Q v H'
  | .ex c env' => xPost K C F c env'
def txA (K : Fr) (C : FC) (f : MX (List D)) : TA := fun σ H Q => ∃ F env ev, Hd K C F env σ H ∧ f env = some ev ∧
  match ev with
  | .ok ds env' => ∀ F' H' vs, Stp F env σ H F' env' H' → Hd K C F' env' σ H' → RpA F' vs ds → Q vs H'
  | .ex c env' => xPost K C F c env'
def JX (X : Cx) (C : FC) (e : Expr) (f : MX RV) : Prop := PE X e (txJ X.K C f)
def JXA (X : Cx) (C : FC) (n : Nat) (es : List Expr) (f : MX (List D)) : Prop := PA X es (txA X.K C f) ∧ ∀ env ds env', f env = some (.ok ds env') → ds.length = n
theorem xPost.up {K : Fr} {C : FC} {F F1 : Hp} {c : EC} {e : Env} (s : Same F F1) (h : xPost K C F c e) : xPost K C F1 c e := fun F' σ' H' cls s' => h F' σ' H' cls (s.trans s')
section
variable {X : Cx} {C : FC} {a b c e : Expr} {es : List Expr} {p pos : Pos} {f g : MX RV} {fe : M RV} {fl : MX (List D)} {st : Stmt}
theorem jx_lift (h : JE X C e fe) : JX X C e (xLift fe) := pe_weak h fun σ H Q ⟨F, env, ev, hd, he, q⟩ => by
  simp only [xLift] at he
  split at he
  · rename_i r e1 h1
    cases he
    exact ⟨F, env, r, e1, hd, h1, q⟩
  · cases he
theorem jxa_nil : JXA X C 0 [] yNil := ⟨pa_weak pa_nil fun σ H Q ⟨F, env, ev, hd, he, q⟩ => by
  simp only [yNil] at he
  cases he
  exact q F H [] Stp.refl hd .nil, fun env ds env' h => by
  simp only [yNil] at h
  cases h
  rfl⟩
theorem jxa_cons {n : Nat} (ha : JX X C e f) (hr : JXA X C n es fl) (hs : starEach (e :: es) X.env = (false, eval e X.env) :: starEach es X.env := by rfl) : JXA X C (n + 1) (e :: es) (yCons f fl) := by
  refine ⟨pa_weak (pa_cons ha hr.1 hs) fun σ H Q ⟨F, env, ev, hd, he, q⟩ => ?_, fun env ds env' he => ?_⟩
  · simp only [yCons] at he
    split at he
    · cases he
    · rename_i c e1 h1
      cases he
      exact ⟨F, env, _, hd, h1, q⟩
    · rename_i x e1 h1
      refine ⟨F, env, _, hd, h1, fun F1 H1 v s1 g1 r1 => ?_⟩
      split at he
      · cases he
      rename_i d e2 h2
      obtain ⟨F2, s2, g2, r2, _⟩ := g1.fzv hd s1 r1 h2
      split at he
      · cases he
      · rename_i c e3 h3
        cases he
        exact ⟨F2, e2, _, g2, h3, xPost.up s2.exF q⟩
      · rename_i ds' e3 h3
        cases he
        exact ⟨F2, e2, _, g2, h3, fun F3 H3 vs s3 g3 r3 => q F3 H3 _ (s2.trans s3) g3 (.cons (r2.up s3.exF) r3)⟩
  · simp only [yCons] at he
    split at he
    · cases he
    · cases he
    · split at he
      · cases he
      split at he
      · cases he
      · cases he
      · rename_i h3
        cases he
        rw [List.length_cons, hr.2 _ _ _ h3]
theorem jx_tup {n : Nat} {x1} (h : JXA X C n es fl) (hn : n ≤ 1000 := by decide) : JX X C (.Tuple es x1 pos) (xTup fl) := by
  refine pe_weak (pe_tupZ h.1) fun σ H Q ⟨F, env, ev, hd, he, q⟩ => ?_
  simp only [xTup] at he
  split at he
  · cases he
  · rename_i c e1 h1
    cases he
    exact ⟨F, env, _, hd, h1, q⟩
  · rename_i ds e1 h1
    cases he
    refine ⟨F, env, _, hd, h1, fun F1 H1 vs s1 g1 r1 => ⟨?_, fun p o hp ho => ?_⟩⟩
    · rw [r1.length, h.2 _ _ _ h1]; exact Nat.le_trans hn (by decide)
    · have hf := Same.none g1.ex hp
      exact q (upd F1 p (.frz o (.tup vs))) _ _ (s1.trans (Stp.newF g1 hp)) (g1.newF hp) (.tup ⟨o, upd_same, ho⟩ (r1.up (same_upd hf)))
/-- the end of return, x = and the like -/
theorem ret_end {K : Fr} {C : FC} {F F1 : Hp} {env e1 : Env} {σ : St} {H H1 : Hp} {r : RV} {v : V} {D' : Ends} {l : Fl} (hd : Hd K C F env σ H) (s1 : Stp F env σ H F1 e1 H1) (g1 : Hd K C F1 e1 σ H1) (r1 : RVR H F1 e1 σ H1 r v)
    (he : sRet (fun _ => some (r, e1)) e1 = some l) (q : PostJ K C F D' l) : D'.rt v H1 := by
  simp only [sRet] at he
  cases r with
  | fz d =>
    cases he
    exact q F1 _ H1 v s1.exF g1 r1
  | tm ds =>
    cases he
    obtain ⟨a, vs, rfl, p1, p2, p3, p4, p5⟩ := r1
    exact q F1 _ H1 _ s1.exF g1 ⟨a, vs, rfl, p1, p2, p3, .inl (hd.old a p4), p5⟩
  | nt o =>
    cases he
    exact q F1 _ H1 _ s1.exF g1 ⟨r1.1, fun a m => ⟨.inl (hd.old a (r1.2 a m).1), (r1.2 a m).2⟩⟩
  | sl j =>
    dsimp only at he
    have r1' : σ[j]? = some (some v) := r1
    split at he
    · rename_i d h2
      cases he
      obtain ⟨w, z1, z2⟩ := g1.fz j d h2
      rw [r1'] at z1; cases z1
      exact q F1 _ H1 v s1.exF g1 z2
    · rename_i ds h2
      cases he
      obtain ⟨a, vs, z1, z2, z3, z4, z5⟩ := g1.ow j ds h2
      rw [r1'] at z1; cases z1
      refine q F1 _ H1 _ s1.exF (g1.forget j) ⟨a, vs, rfl, z2, z3, z4, z5, fun k es p z => ?_, fun k o w p z => ?_⟩
      · obtain ⟨ne, p⟩ := set_ne (by intro z; cases z) p
        exact ne (g1.inj j k ds es a h2 p r1' z)
      · obtain ⟨ne, p⟩ := set_ne (by intro z; cases z) p
        exact g1.nto k j o ds w a p h2 z r1'
    · rename_i o h2
      cases he
      obtain ⟨z1, z2⟩ := g1.footN h2 r1'
      refine q F1 _ H1 _ s1.exF (g1.forget j) ⟨z1, fun a m => ⟨z2 a m, fun k es p z => ?_, fun k o' w p z m' => ?_⟩⟩
      · obtain ⟨ne, p⟩ := set_ne (by intro z; cases z) p
        exact g1.nto j k o es v a h2 p r1' z m
      · obtain ⟨ne, p⟩ := set_ne (by intro z; cases z) p
        exact ne (g1.ntj j k o o' v w a h2 p r1' z m m')
    · cases he
theorem js_xret (ha : JX X C a f) : JS X C (.Return (some a) pos) (xRet f) := by
  refine ps_weak (ps_ret ha) fun D' σ H ⟨F, env, l, hd, he, q⟩ => ?_
  simp only [xRet] at he
  split at he
  · cases he
  · rename_i c e1 h1
    cases he
    exact ⟨F, env, _, hd, h1, fun F1 σ1 H1 cls s1 g1 => q F1 σ1 H1 cls s1 g1⟩
  · rename_i r e1 h1
    exact ⟨F, env, _, hd, h1, fun F1 H1 v s1 g1 r1 => ret_end hd s1 g1 r1 he q⟩
theorem js_xasg {i : Nat} {mp : List Nat} (hc : C.mp = mp) (hm : i ∉ mp) (h : PS X st (tAsg (txJ X.K C f) (gName i))) : JS X C st (xAsg i f) := by
  subst hc
  refine ps_weak h fun D' σ H ⟨F, env, l, hd, he, q⟩ => ?_
  simp only [xAsg] at he
  split at he
  · cases he
  · rename_i c e1 h1
    cases he
    exact ⟨F, env, _, hd, h1, fun F1 σ1 H1 cls s1 g1 => q F1 σ1 H1 cls s1 g1⟩
  · rename_i r e1 h1
    refine ⟨F, env, _, hd, h1, fun F1 H1 v s1 g1 r1 => ?_⟩
    simp only [sAsg] at he
    cases r with
    | fz d =>
      cases he
      exact q F1 _ H1 s1.exF (g1.asgF r1 hm)
    | tm ds =>
      cases he
      obtain ⟨a, vs, rfl, p1, p2, p3, p4, p5⟩ := r1
      exact q F1 _ H1 s1.exF (g1.asgO p1 p2 p3 (.inl (hd.old a p4)) p5 hm)
    | nt o =>
      cases he
      exact q F1 _ H1 s1.exF (g1.asgN r1.1 (fun a m => ⟨.inl (hd.old a (r1.2 a m).1), (r1.2 a m).2⟩) hm)
    | sl j =>
      dsimp only at he
      split at he
      · cases he
      rename_i d e2 h2
      cases he
      obtain ⟨F2, s2, g2, r2, _⟩ := g1.fzv hd s1 r1 h2
      exact q F2 _ H1 s2.exF (g2.asgF r2 hm)
theorem js_xunp {sl : List Nat} {g : G} (h : PS X st (tAsg (txJ X.K C f) (tgJ X.K C sl g))) : JS X C st (xUnp g f) := by
  refine ps_weak h fun D' σ H ⟨F, env, l, hd, he, q⟩ => ?_
  simp only [xUnp] at he
  split at he
  · cases he
  · rename_i c e1 h1
    cases he
    exact ⟨F, env, _, hd, h1, fun F1 σ1 H1 cls s1 g1 => q F1 σ1 H1 cls s1 g1⟩
  · rename_i r e1 h1
    refine ⟨F, env, _, hd, h1, fun F1 H1 v s1 g1 r1 => ?_⟩
    simp only [sUnp] at he
    split at he
    · cases he
    rename_i d e2 h2
    split at he
    · rename_i e3 h3
      cases he
      obtain ⟨F2, s2, g2, r2, _⟩ := g1.fzv hd s1 r1 h2
      exact ⟨F2, e2, d, e3, g2, r2, h3, fun σ' _ _ g' => q F2 σ' H1 s2.exF g'⟩
    · cases he
theorem js_xdrop (h : PS X st (tDrop (txJ X.K C f))) : JS X C st (xDrop f) := ps_weak h fun D' σ H ⟨F, env, l, hd, he, q⟩ => by
  simp only [xDrop] at he
  split at he
  · cases he
  · rename_i c e1 h1
    cases he
    exact ⟨F, env, _, hd, h1, fun F1 σ1 H1 cls s1 g1 => q F1 σ1 H1 cls s1 g1⟩
  · rename_i r e1 h1
    cases he
    exact ⟨F, env, _, hd, h1, fun F1 H1 v s1 g1 r1 => q F1 _ H1 s1.exF g1⟩
/-- what is never reached -/
theorem js_none : JS X C st sNone := ⟨fun pins s σ H D' I h => by
  obtain ⟨F, env, l, hd, he, q⟩ := h
  cases he⟩
/-! ### raise -/
theorem js_raise {e : Expr} {D : Addr} {x : Str} (hc : X.calm = true) (tk : Takes X C.wx) (hL : C.cl x = some (.ref D)) (he : PMk X e (fun _ H Q => Q (.ref D) none H)) : JS X C (.Raise (some e) none pos) (sRaise x) :=
  ps_weak (ps_raise hc tk he) fun D' σ H ⟨F, env, l, hd, he, q⟩ => by
    simp only [sRaise] at he
    cases he
    exact q F σ H _ (Same.refl F) hd hL rfl
end
/-- X() -/
theorem pmk_own0 {X : Cx} {C : Addr} {bmB : List Value} {B newId initId : String} {x : Str} {p pos : Pos} (F : ExcBaseFacts B newId initId bmB) (q : PySem.W.excIn X.K C bmB newId = true) (gC : X.mg x = some (.ref C)) (kC : PySem.W.keepIn X.K (.ref C) = true) (r : Raises X (.ref C)) (hg : Gl X x)
    (hdb : (x == ("__debug__" : Str)) = false := by decide) : PMk X (.Call (.Name x p) [] [] pos) (fun _ H Q => Q (.ref C) none H) := by
  intro pins s σ H Q I h
  refine wpAny_Call_Name_kw (ld_glob I hg gC ?_ hdb)
  refine PySem.W.callWith_K0 I.kIn kC ?_
  show wpAny _ _ (call (.ref C) []) _ _ _
  obtain ⟨bm, N, nm, qn, bs, hdct, sn, sub, ab, col, dd, k0, k1, k2, k3, k5, mN, hC, hN, hni, T⟩ := exc_obj I.kIn q
  refine wpAny_call_exc_subT F T hC hN hni (fun h' e hm => ?_) (by show 0 ≤ sizeLine; omega)
  exact mk_of I hm r h (I.hok.gone hm.new)
/-! ### defs that raise -/
/-- the promise of a def that may raise: it only looks -/
def spX (K : Fr) (mg : Str → Option Value) (ks : List PK) (fn : FnX) : Sp := fun vs H Q E => ∃ F ds o, Same F H ∧ ArgsR K F H [] ks vs ds ∧ fn ds = some o ∧
  match o with
  | .ok r => ∀ v F' H', Same F F' → Same F' H' → (∀ a u, H a = some u → H' a = some u) → (∀ a, H' a = none → H a = none) → (∀ a, F' a ≠ none → F a ≠ none ∨ H a = none) → ResR H F' H' r v → Q v H'
  | .ex c => ∀ cls F' H', Same F F' → Same F' H' → (∀ a u, H a = some u → H' a = some u) → (∀ a, H' a = none → H a = none) → (∀ a, F' a ≠ none → F a ≠ none ∨ H a = none) → mg c.nm = some cls → c.fs = [] → E cls none H'
def looksK : List PK → Bool
  | [] => true
  | .fz :: ks => looksK ks
  | .bw :: ks => looksK ks
  | _ => false
theorem looksK_all : ∀ {ks : List PK}, looksK ks = true → ∀ k ∈ ks, k = .fz ∨ k = .bw
  | [], _, k, h => absurd h (by simp)
  | p :: ks, hk, k, h => by
    cases p <;> simp [looksK] at hk <;> rcases List.mem_cons.mp h with rfl | h
    · exact .inl rfl
    · exact looksK_all hk k h
    · exact .inr rfl
    · exact looksK_all hk k h
theorem mutI_of_looks : ∀ {k0 : Nat} {ks : List PK}, (∀ k ∈ ks, k = .fz ∨ k = .bw) → mutI k0 ks = []
  | _, [], _ => rfl
  | k0, k :: ks, h => by
    have ih := mutI_of_looks (k0 := k0 + 1) (ks := ks) fun k hk => h k (List.mem_cons_of_mem _ hk)
    rcases h k List.mem_cons_self with rfl | rfl <;> exact ih
section
variable {P : Program} {w : World} {K : Fr} {mg : Str → Option Value} {base : Heap}
theorem runX {N : List Str} {n : Nat} {ks : List PK} {f : SM} {vs : List V} {H : Hp} {Q : VK} {E : XK} (hk : looksK ks = true) (hN : N.length = ks.length + n) (h : spX K mg ks (mkFnX ks n f) vs H Q E) :
    ∃ C : FC, C.mp = [] ∧ C.cl = mg ∧ C.wx = (fun cls d _ H => E cls d H) ∧ sJ K C f { nx := fun _ H' => Q .non H', rt := Q } (L2.start N vs) H := by
  obtain ⟨F, ds, o, sm, ar, he, q⟩ := h
  have m0 : mutA ks vs = [] := mutA_of_looks (looksK_all hk)
  have i0 : mutI 0 ks = [] := mutI_of_looks (looksK_all hk)
  refine ⟨⟨H, F, mutA ks vs, mutI 0 ks, fun cls d _ H => E cls d H, mg⟩, i0, rfl, rfl, ?_⟩
  unfold mkFnX at he
  split at he
  · cases he
  rename_i e0 h0
  have h1 := hd_start (wx := fun cls d _ H => E cls d H) (cl := mg) (N := N) sm (by rw [m0]; exact ar) (by rw [m0]; exact List.nodup_nil) h0 hN
  have done : ∀ {env : Env} {F1 : Hp} {σ1 : St} {H1 : Hp} {r : Rt} {v : V}, Same F F1 → Hd K ⟨H, F, mutA ks vs, mutI 0 ks, fun cls d _ H => E cls d H, mg⟩ F1 env σ1 H1 → RtR ⟨H, F, mutA ks vs, mutI 0 ks, fun cls d _ H => E cls d H, mg⟩ F1 env σ1 H1 r v →
      (∀ v F' H', Same F F' → Same F' H' → (∀ a u, H a = some u → H' a = some u) → (∀ a, H' a = none → H a = none) → (∀ a, F' a ≠ none → F a ≠ none ∨ H a = none) → ResR H F' H' r v → Q v H') → Q v H1 := fun {env F1 σ1 H1 r v} s1 g1 rt q => by
    have fr : ∀ {a : Addr}, H a = none ∨ a ∈ mutA ks vs → H a = none := fun {a} z => z.elim id fun m => by rw [m0] at m; exact absurd m (by simp)
    refine q v F1 H1 s1 g1.ex (fun a u z => g1.keep a u z (by show a ∉ mutA ks vs; rw [m0]; simp)) g1.old (fun a z => (g1.dom a z).imp id fr) ?_
    cases r with
    | fz d => exact rt
    | ow ds =>
      obtain ⟨a, ws, rfl, p1, p2, p3, p4, p5⟩ := rt
      exact ⟨a, ws, rfl, fr p4, p2, p1, p3⟩
    | nt o => exact ⟨rt.1, fun a m => fr (rt.2 a m).1⟩
  split at he
  · rename_i e1 h2
    cases he
    exact ⟨F, _, _, h1, h2, fun F1 σ1 H1 s1 g1 => done (r := .fz .none) (v := .non) s1 g1 Rp.non q⟩
  · rename_i r' e1 h2
    cases he
    exact ⟨F, _, _, h1, h2, fun F1 σ1 H1 v s1 g1 rt => done s1 g1 rt q⟩
  · rename_i c e1 h2
    cases he
    refine ⟨F, _, _, h1, h2, fun F1 σ1 H1 cls s1 g1 hcl hfs => ?_⟩
    have fr : ∀ {a : Addr}, H a = none ∨ a ∈ mutA ks vs → H a = none := fun {a} z => z.elim id fun m => by rw [m0] at m; exact absurd m (by simp)
    exact q cls F1 H1 s1 g1.ex (fun a u z => g1.keep a u z (by show a ∉ mutA ks vs; rw [m0]; simp)) g1.old (fun a z => (g1.dom a z).imp id fr) hcl hfs
  · cases he
/-- the context of a raising def's body takes what its promise lets out -/
theorem fnX {x qual : Str} {st : Stmt} {fa : Addr} {fd : FuncData} {N ps : List Str} {k n : Nat} {ks : List PK} {f : SM} (Fu : Fun K x qual st fa fd) (S : FnScope N ps (defScope st)) (hk : ks.length = ps.length) (hN : N.length = ks.length + n) (hl : looksK ks = true)
    (hb : ∀ (cdv : Value) (A : Around) (outer : List PySem.Env) (s : Shared) (H : Hp) (E : XK) (C : FC), Room k (A.deeper (PyProof.Rows.envOfC qual (defScope st) s.heap.objs.size fa cdv)) → C.mp = [] → C.cl = mg →
      Takes (cxOf (L2.CX P w) P w K mg base N qual (defScope st) fa cdv A outer s H E) C.wx →
      JSs (cxOf (L2.CX P w) P w K mg base N qual (defScope st) fa cdv A outer s H E) C (defBody st) f) :
    FnOk P w K mg base (L2.CX P w) (k + 1) fa fd ps (spX K mg ks (mkFnX ks n f)) := by
  refine Fu.okX S (fun vs H Q E h => ?_) fun cdv A outer s H vs Q E hr h => ?_
  · obtain ⟨F, ds, o, _, ar, _⟩ := h
    rw [ar.len.1, hk]
  · obtain ⟨C, hC, hL, hW, z⟩ := runX (mg := mg) hl hN h
    refine ⟨_, hb cdv A outer s H E C hr hC hL ?_, z⟩
    rw [hW]
    exact takes_of rfl rfl rfl rfl
end
def CalX (P : Program) (w : World) (K : Fr) (mg : Str → Option Value) (base : Heap) (x : Str) (k : Nat) (ps : List Str) (ks : List PK) (fn : FnX) : Prop :=
  ∃ (fa : Addr) (fd : FuncData), FnOk P w K mg base (L2.CX P w) k fa fd ps (spX K mg ks fn) ∧ mg x = some (.ref fa) ∧ PySem.W.keepIn K (.ref fa) = true ∧ Binds K fd ps []
section
variable {X : Cx} {C : FC} {a b c e : Expr} {es : List Expr} {p pos : Pos} {k : Nat} {as : List Ar} {ks : List PK} {fn : FnX} {ce : Expr}
theorem looksA_K : ∀ {ks : List PK} {as : List Ar}, looksA ks as = true → looksK ks = true
  | [], [], _ => rfl
  | [], _ :: _, h => by simp [looksA] at h
  | k :: ks, [], h => by cases k <;> simp [looksA] at h
  | k :: ks, a :: as, h => by
    cases k <;> cases a <;> simp [looksA] at h <;> simpa [looksK] using looksA_K h
theorem muts_looks : ∀ {ks : List PK} {l : List It}, looksK ks = true → fitsI ks l = true → muts l = []
  | [], [], _, _ => rfl
  | [], _ :: _, _, h => by simp [fitsI] at h
  | k :: ks, [], _, h => by cases k <;> simp [fitsI] at h
  | k :: ks, a :: as, hk, h => by
    cases k <;> cases a <;> simp [fitsI, looksK] at h hk <;> simpa [muts] using muts_looks hk h
/-- the call; the state behind it -/
theorem callX_run {K : Fr} {mg : Str → Option Value} {F : Hp} {env : Env} {σ : St} {H : Hp} {l : List It} {e1 : Env} {ds : List D} {o : Ox} {Q : VK} {E : XK} (hf : looksA ks as = true) (hd : Hd K C F env σ H) (h1 : evA as env = some (l, e1)) (h2 : itDs e1 l = some ds) (h3 : fn ds = some o)
    (qk : ∀ r, o = .ok r → ∀ F' H' v, Stp F env σ H F' e1 H' → Hd K C F' e1 σ H' → RVR H F' e1 σ H' (toRV r) v → Q v H')
    (qx : ∀ c, o = .ex c → ∀ F' H' cls, Same F F' → Hd K C F' e1 σ H' → mg c.nm = some cls → c.fs = [] → E cls none H') : tArJ K C as σ H fun vs H1 => spX K mg ks fn (vs ++ []) H1 Q E := by
  refine ⟨F, env, l, e1, hd, h1, fun F1 H1 vs s1 g1 r1 => ?_⟩
  show spX K mg ks fn (vs ++ []) H1 Q E
  rw [List.append_nil]
  have hfi := fits_of h1 (looksA_fits hf)
  have hm := muts_looks (looksA_K hf) hfi
  have m0 : mutA ks vs = [] := mutA_of_looks (looksK_all (looksA_K hf))
  have go : ∀ {F' H' : Hp}, Same F1 F' → Same F' H' → (∀ a u, H1 a = some u → H' a = some u) → (∀ a, H' a = none → H1 a = none) → (∀ a, F' a ≠ none → F1 a ≠ none ∨ H1 a = none) →
      Hd K C F' e1 σ H' ∧ Stp F1 e1 σ H1 F' e1 H' ∧ ∀ a, H1 a = none → NotOw e1 σ H' a := fun {F' H'} s1' s2' kp old dom =>
    g1.called (is := []) (as := []) (ms := []) .nil (fun i h => absurd h (by simp)) rfl s1' s2' (fun a u z _ => kp a u z) old dom .nil
  refine ⟨F1, ds, o, g1.ex, args_of (Mu := []) g1 (fun a m => absurd m (by simp)) (fun i hi es a z p m => absurd m (by simp)) hfi r1 h2, h3, ?_⟩
  cases o with
  | ok r =>
    refine fun v F' H' s1' s2' kp old dom res => ?_
    obtain ⟨g2, s2, nn⟩ := go s1' s2' kp old dom
    refine qk r rfl F' H' v (s1.trans s2) g2 ?_
    cases r with
    | fz d => exact res
    | ow ds' =>
      obtain ⟨a, ws, rfl, p1, p2, p3, p4⟩ := res
      exact ⟨a, ws, rfl, p3, p2, p4, s1.old a p1, nn a p1⟩
    | nt o => exact ⟨res.1, fun a m => ⟨s1.old a (res.2 a m), nn a (res.2 a m)⟩⟩
  | ex c =>
    refine fun cls F' H' s1' s2' kp old dom hcl hfs => ?_
    obtain ⟨g2, s2, nn⟩ := go s1' s2' kp old dom
    exact qx c rfl F' H' cls (s1.exF.trans s1') g2 hcl hfs
theorem jx_call {x : Str} {kg : Nat} {ps : List Str} (Cg : CalX X.prog X.w X.K X.mg X.base x kg ps ks fn) (hr : Room k X.A) (hk : kg ≤ k) (tk : Takes X C.wx) (hL : C.cl = X.mg) (ha : JAr X C (e :: es) as) (hf : looksA ks as = true) (hg : Gl X x := by rfl)
    (hdb : (x == ("__debug__" : Str)) = false := by decide) (he : starEach (e :: es) X.env = (false, eval e X.env) :: starEach es X.env := by rfl) (hpl : (backTo pos (starEach es X.env)).any (·.1) = false := by rfl) : JX X C (.Call (.Name x p) (e :: es) [] pos) (eCallX fn as) := by
  obtain ⟨fa, fd, F, hm, kp, hb⟩ := Cg
  refine pe_weak (pe_callS F (hr.mono hk) hg hm kp hb (passAt tk) ha hdb he hpl) fun σ H Q ⟨F0, env, ev, hd, hev, q⟩ => ?_
  show tArJ X.K C as σ H fun vs H1 => spX X.K X.mg ks fn vs H1 Q (WE C.wx σ)
  simp only [eCallX] at hev
  split at hev
  · cases hev
  rename_i l e1 h1
  split at hev
  · cases hev
  rename_i ds h2
  have main : ∀ o, fn ds = some o → (∀ r, o = .ok r → ∀ F' H' v, Stp F0 env σ H F' e1 H' → Hd X.K C F' e1 σ H' → RVR H F' e1 σ H' (toRV r) v → Q v H') → (∀ c, o = .ex c → xPost X.K C F0 c e1) →
      tArJ X.K C as σ H fun vs H1 => spX X.K X.mg ks fn vs H1 Q (WE C.wx σ) := fun o h3 z1 z2 => by
    have := callX_run (mg := X.mg) (Q := Q) (E := WE C.wx σ) hf hd h1 h2 h3 z1 fun c ho F' H' cls s1 g1 hcl hfs => z2 c ho F' σ H' cls s1 g1 (by rw [hL]; exact hcl) hfs
    simpa only [List.append_nil] using this
  split at hev
  · rename_i r h3
    cases hev
    exact main _ h3 (fun r' z => by cases z; exact q) fun c z => by cases z
  · rename_i c h3
    cases hev
    exact main _ h3 (fun r' z => by cases z) fun c' z => by cases z; exact q
  · cases hev
/-- where it raises nothing -/
theorem j_callP {x : Str} {kg : Nat} {ps : List Str} (Cg : CalX X.prog X.w X.K X.mg X.base x kg ps ks fn) (hr : Room k X.A) (hk : kg ≤ k) (ha : JAr X C (e :: es) as) (hf : looksA ks as = true) (hg : Gl X x := by rfl)
    (hdb : (x == ("__debug__" : Str)) = false := by decide) (he : starEach (e :: es) X.env = (false, eval e X.env) :: starEach es X.env := by rfl) (hpl : (backTo pos (starEach es X.env)).any (·.1) = false := by rfl) : JE X C (.Call (.Name x p) (e :: es) [] pos) (eCallP fn as) := by
  obtain ⟨fa, fd, F, hm, kp, hb⟩ := Cg
  refine pe_weak (pe_call F (hr.mono hk) hg hm kp hb .nil passL ha hdb he hpl) fun σ H Q ⟨F0, env, rv, env', hd, hev, q⟩ => ?_
  simp only [eCallP] at hev
  split at hev
  · cases hev
  rename_i l e1 h1
  split at hev
  · cases hev
  rename_i ds h2
  split at hev
  · rename_i r h3
    cases hev
    exact callX_run (mg := X.mg) (E := E0) hf hd h1 h2 h3 (fun r' z => by cases z; exact q) fun c z => by cases z
  · cases hev
end
/-! ### try .. except X as e -/
theorem tbF_mem {nm : Str} {b : Bool} : ∀ {l : List (Str × Bool)}, tbF l nm = some b → (nm, b) ∈ l
  | [], h => by cases h
  | (x, c) :: l, h => by
    simp only [tbF] at h
    split at h
    · rename_i e
      cases h
      rw [e]
      exact List.mem_cons_self
    · exact List.mem_cons_of_mem _ (tbF_mem h)
/-- what the name of a class says -/
def Cv (mg : Str → Option Value) (y : Str) (c : Value) : Prop := mg y = some c ∨ (mg y = none ∧ bootBuiltins y = some c ∧ y ≠ "__name__")
/-- what a clause takes -/
def ExM (K : Fr) (mg : Str → Option Value) (y : Str) (tb : List (Str × Bool)) : Prop := ∃ c, Cv mg y c ∧ ∀ p ∈ tb, ∃ D, mg p.1 = some (.ref D) ∧ PySem.W.exmOne K (.ref D) c = some p.2
/-- what isinstance answers -/
def ExI (K : Fr) (mg : Str → Option Value) (y : Str) (tb : List (Str × Bool)) : Prop := ∃ (c : Value) (v : V), Cv mg y c ∧ RelV v c ∧ (∀ u, RelV v u → u = c) ∧ ∀ p ∈ tb, ∃ D, mg p.1 = some (.ref D) ∧ ExcC K D ∧ PySem.W.kitOne K (.ref D) c = some p.2
theorem exM_nil {K : Fr} {mg : Str → Option Value} {y : Str} {c : Value} (h : Cv mg y c) : ∀ p ∈ ([] : List (Str × Bool)), ∃ D, mg p.1 = some (.ref D) ∧ PySem.W.exmOne K (.ref D) c = some p.2 := fun p m => absurd m (by simp)
/-- an own exception class that may be raised -/
def ExR (K : Fr) (mg : Str → Option Value) (x : Str) : Prop := ∃ D bmB B newId initId, ExcBaseFacts B newId initId bmB ∧ PySem.W.excIn K D bmB newId = true ∧ mg x = some (.ref D) ∧ PySem.W.keepIn K (.ref D) = true ∧ PySem.W.subIn K (.ref D) (.type "BaseException") = some true ∧ PySem.W.typeIn K (.ref D) = some (.type "type")
section
variable {K : Fr} {C : FC} {F : Hp} {env : Env} {σ : St} {H : Hp} {a : Addr} {i : Nat}
theorem Hd.wx (h : Hd K C F env σ H) (W : WX) : Hd K { C with wx := W } F env σ H :=
  ⟨h.ex, h.len, h.fz, h.ow, h.bw, h.sc, h.inj, h.keep, h.old, h.dom, h.mps, h.nt, h.ntj, h.nto⟩
theorem Hd.unwx {W : WX} (h : Hd K { C with wx := W } F env σ H) : Hd K C F env σ H :=
  ⟨h.ex, h.len, h.fz, h.ow, h.bw, h.sc, h.inj, h.keep, h.old, h.dom, h.mps, h.nt, h.ntj, h.nto⟩
abbrev FC.suite (C : FC) (a : Addr) (i : Nat) : FC := { C with Mu := a :: C.Mu, mp := i :: C.mp, wx := fun _ _ _ _ => False }
theorem off_set (h : i ∉ C.mp) : Off [i] (env.set i .no) := fun j z => by
  rw [List.mem_singleton] at z
  subst z
  rcases Nat.lt_or_ge j env.length with hl | hl
  · left; rw [List.getElem?_set_self hl]
  · right; rw [List.getElem?_eq_none (by rw [List.length_set]; exact hl)]
theorem Hd.suite (h : Hd K C F env σ H) (hl : i < σ.length) (hm : i ∉ C.mp) (ha : H a = none) : Hd K (C.suite a i) F (env.set i .no) (σ.set i (some (.ref a))) H := by
  have h0 : C.H0 a = none := h.old a ha
  have g := (h.forget i).sig (vs := [i]) (σ' := σ.set i (some (.ref a))) (by simp) (off_set hm) (fun j z => by rw [List.getElem?_set_ne (fun e => z (by rw [e]; exact List.mem_singleton_self _))]) (fun j z => by rw [List.mem_singleton] at z; rw [z]; exact hm)
  have nm : ∀ {b : Addr}, b ∉ C.Mu → C.H0 b ≠ none → b ∉ a :: C.Mu := fun {b} n z m => by
    rcases List.mem_cons.mp m with e | m
    · exact z (by rw [e]; exact h0)
    · exact n m
  refine ⟨g.ex, g.len, g.fz, fun j ds q => ?_, fun j ds q => ?_, fun j ds q => ?_, g.inj, fun b o z n => g.keep b o z fun m => n (List.mem_cons_of_mem _ m), g.old, fun b z => ?_, fun k j b q1 q2 => ?_, fun j o q => ?_, g.ntj, g.nto⟩
  · obtain ⟨b, vs, p1, p2, p3, p4, p5⟩ := g.ow j ds q
    exact ⟨b, vs, p1, p2, p3, p4, p5.imp id (List.mem_cons_of_mem _)⟩
  · obtain ⟨b, vs, p1, p2, p3, p4⟩ := g.bw j ds q
    exact ⟨b, vs, p1, p2, nm p3 (by rw [p2]; simp), p4⟩
  · obtain ⟨b, ns, p1, p2, p3⟩ := g.sc j ds q
    refine ⟨b, ns, p1, p2, p3.imp (fun z => ⟨z.1, nm z.2 ?_⟩) id⟩
    rcases z.1 with w | ⟨o, w⟩ <;> rw [w] <;> simp
  · rcases g.dom b z with w | w | w
    · exact .inl w
    · exact .inr (.inl w)
    · exact .inr (.inr (List.mem_cons_of_mem _ w))
  · cases k with
    | zero =>
      simp at q1 q2
      subst q1 q2
      exact List.getElem?_set_self hl
    | succ k => exact g.mps k j b (by simpa using q1) (by simpa using q2)
  · obtain ⟨v, p1, p2, p3⟩ := g.nt j o q
    exact ⟨v, p1, p2, fun b m => (p3 b m).imp id (List.mem_cons_of_mem _)⟩
theorem Hd.unsuite (h : Hd K (C.suite a i) F env σ H) (hm : i ∉ C.mp) (h0 : C.H0 a = none) : Hd K C F (env.set i .no) (σ.set i none) H := by
  have un : ∀ {b : Addr}, C.H0 b = none ∨ b ∈ a :: C.Mu → C.H0 b = none ∨ b ∈ C.Mu := fun {b} z => by
    rcases z with z | z
    · exact .inl z
    · rcases List.mem_cons.mp z with e | z
      · exact .inl (by rw [e]; exact h0)
      · exact .inr z
  have g0 : Hd K C F env σ H := by
    refine ⟨h.ex, h.len, h.fz, fun j ds q => ?_, fun j ds q => ?_, fun j ds q => ?_, h.inj, fun b o z n => h.keep b o z fun m => ?_, h.old, fun b z => ?_, fun k j b q1 q2 => h.mps (k + 1) j b (by simpa using q1) (by simpa using q2), fun j o q => ?_, h.ntj, h.nto⟩
    · obtain ⟨b, vs, p1, p2, p3, p4, p5⟩ := h.ow j ds q
      exact ⟨b, vs, p1, p2, p3, p4, un p5⟩
    · obtain ⟨b, vs, p1, p2, p3, p4⟩ := h.bw j ds q
      exact ⟨b, vs, p1, p2, fun m => p3 (List.mem_cons_of_mem _ m), p4⟩
    · obtain ⟨b, ns, p1, p2, p3⟩ := h.sc j ds q
      exact ⟨b, ns, p1, p2, p3.imp (fun z => ⟨z.1, fun m => z.2 (List.mem_cons_of_mem _ m)⟩) id⟩
    · rcases List.mem_cons.mp m with e | m
      · rw [e] at z; rw [h0] at z; cases z
      · exact n m
    · rcases h.dom b z with w | w
      · exact .inl w
      · exact .inr (un w)
    · obtain ⟨v, p1, p2, p3⟩ := h.nt j o q
      exact ⟨v, p1, p2, fun b m => un (p3 b m)⟩
  exact (g0.forget i).sig (vs := [i]) (σ' := σ.set i none) (by simp) (off_set hm) (fun j z => by rw [List.getElem?_set_ne (fun e => z (by rw [e]; exact List.mem_singleton_self _))]) (fun j z => by rw [List.mem_singleton] at z; rw [z]; exact hm)
theorem NotOw.unsuite {b : Addr} (h : NotOw env σ H b) : NotOw (env.set i .no) (σ.set i none) H b := by
  have ne : ∀ {j : Nat} {s : Sl}, (env.set i Sl.no)[j]? = some s → s ≠ .no → i ≠ j ∧ env[j]? = some s := fun {j s} q n => by
    by_cases e : i = j
    · subst e
      rcases Nat.lt_or_ge i env.length with hl | hl
      · rw [List.getElem?_set_self hl] at q; cases q; exact absurd rfl n
      · rw [List.getElem?_eq_none (by rw [List.length_set]; exact hl)] at q; cases q
    · exact ⟨e, by rw [List.getElem?_set_ne e] at q; exact q⟩
  refine ⟨fun j ds q z => ?_, fun j o v q z => ?_⟩
  · obtain ⟨n, q⟩ := ne q (fun z => nomatch z)
    rw [List.getElem?_set_ne n] at z
    exact h.ow j ds q z
  · obtain ⟨n, q⟩ := ne q (fun z => nomatch z)
    rw [List.getElem?_set_ne n] at z
    exact h.nt j o v q z
theorem RtR.unsuite {r : Rt} {v : V} (h0 : C.H0 a = none) (h : RtR (C.suite a i) F env σ H r v) : RtR C F (env.set i .no) (σ.set i none) H r v := by
  have un : ∀ {b : Addr}, C.H0 b = none ∨ b ∈ a :: C.Mu → C.H0 b = none ∨ b ∈ C.Mu := fun {b} z => by
    rcases z with z | z
    · exact .inl z
    · rcases List.mem_cons.mp z with e | z
      · exact .inl (by rw [e]; exact h0)
      · exact .inr z
  cases r with
  | fz d => exact h
  | ow ds =>
    obtain ⟨b, vs, rfl, p1, p2, p3, p4, p5⟩ := h
    exact ⟨b, vs, rfl, p1, p2, p3, un p4, p5.unsuite⟩
  | nt o => exact ⟨h.1, fun b m => ⟨un (h.2 b m).1, (h.2 b m).2.unsuite⟩⟩
end
section
variable {X : Cx} {C : FC} {x n : Str} {i : Nat} {body suite : List Stmt} {b₀ : Stmt} {np pos pos' p : Pos} {sb : SM} {ss : EC → SM} {tb : List (Str × Bool)} {e : Expr}
theorem js_try (hs : X.stack = X.env :: X.outer) (hf : X.env.frame = some X.env.locals) (hN : X.N.Nodup) (hi : X.N[i]? = some n) (hln : X.env.kindOf n = some .local) (hg : Gl X x) (hM : ExM X.K X.mg x tb) (tk : Takes X C.wx) (hL : C.cl = X.mg) (hm : i ∉ C.mp)
    (hb : ∀ (W : WX) (pn : List (Addr × Obj)) (xe : Value → Shared → Prop), Takes (X.tr pn xe) W → PassesOwn (model X.prog X.w) X.A X.env xe → JSs (X.tr pn xe) { C with wx := W } body sb)
    (hsu : ∀ (ec : EC) (a : Addr) (oe : Obj) (D : Addr) (pn : List (Addr × Obj)), X.mg ec.nm = some (.ref D) → Zc (.ref D) none oe → (∃ vs, oe.data = .fields vs) → JSs (X.suite a ((a, oe) :: pn)) (C.suite a i) (b₀ :: suite) (ss ec))
    (hdb : (x == ("__debug__" : Str)) = false := by decide) : JS X C (.Try body [.ExceptHandler (some (.Name x np)) (some n) (b₀ :: suite) pos'] [] [] pos) (sTry i (tbF tb) sb ss) := by
  obtain ⟨c, hc, hmm⟩ := hM
  refine ps_weak (ps_try_as (i := i) (c := c) (Wout := C.wx) (tb := fun W => sJ X.K { C with wx := W } sb) (ts := fun a cls d D' σ H => ∃ (ec : EC) (D : Addr), cls = .ref D ∧ d = none ∧ X.mg ec.nm = some (.ref D) ∧ sJ X.K (C.suite a i) (ss ec) D' σ H) hs hf hN hi hln ⟨hg, hdb, hc⟩ tk hb fun a oe cls d pn hz hfl => ?_) fun D' σ H ⟨F, env, fl, hd, he, q⟩ => ?_
  · refine ⟨fun pins s σ H D' I ⟨ec, D, ec1, ec2, hmg, h⟩ => ?_⟩
    subst ec1 ec2
    exact (hsu ec a oe D pn hmg hz hfl).run pins s σ H D' I h
  · show sJ X.K { C with wx := wAs X.K c i _ C.wx D' } sb D' σ H
    simp only [sTry] at he
    split at he
    · rename_i ec e1 h1
      refine ⟨F, env, _, hd.wx _, h1, fun F1 σ1 H1 cls s1 g1 hcl hfs => ?_⟩
      have g1' : Hd X.K C F1 e1 σ1 H1 := g1.unwx
      split at he
      · rename_i hb1
        obtain ⟨D, d1, d2⟩ := hmm _ (tbF_mem hb1)
        have hcl' : X.mg ec.nm = some cls := by rw [← hL]; exact hcl
        rw [d1] at hcl'
        cases hcl'
        refine ⟨true, d2, fun _ a ha => ⟨ec, D, rfl, rfl, d1, ?_⟩, fun z => by cases z⟩
        split at he
        case isFalse => cases he
        rename_i hl'
        have hl : i < σ1.length := by rw [← g1'.len]; exact hl'
        have g2 := g1'.suite (i := i) hl hm ha
        have h0 : C.H0 a = none := g1'.old a ha
        split at he
        all_goals (try (cases he; done))
        · rename_i e2 h2
          cases he
          exact ⟨F1, _, _, g2, h2, fun F2 σ2 H2 s2 g3 => q F2 _ H2 (s1.trans s2) (g3.unsuite hm h0)⟩
        · rename_i e2 h2
          cases he
          exact ⟨F1, _, _, g2, h2, fun F2 σ2 H2 s2 g3 => q F2 _ H2 (s1.trans s2) (g3.unsuite hm h0)⟩
        · rename_i e2 h2
          cases he
          exact ⟨F1, _, _, g2, h2, fun F2 σ2 H2 s2 g3 => q F2 _ H2 (s1.trans s2) (g3.unsuite hm h0)⟩
        · rename_i r e2 h2
          cases he
          refine ⟨F1, _, _, g2, h2, fun F2 σ2 H2 v s2 g3 rt => q F2 (σ2.set i none) H2 v (s1.trans s2) (g3.unsuite hm h0) (RtR.unsuite h0 rt)⟩
      · rename_i hb1
        obtain ⟨D, d1, d2⟩ := hmm _ (tbF_mem hb1)
        have hcl' : X.mg ec.nm = some cls := by rw [← hL]; exact hcl
        cases he
        rw [d1] at hcl'
        cases hcl'
        exact ⟨false, d2, fun z => absurd z (by decide), fun _ => q F1 σ1 H1 _ s1 g1' hcl hfs⟩
      · cases he
    · refine ⟨F, env, fl, hd.wx _, he, ?_⟩
      cases fl with
      | nx e1 => exact fun F1 σ1 H1 s1 g1 => q F1 σ1 H1 s1 g1.unwx
      | bk e1 => exact fun F1 σ1 H1 s1 g1 => q F1 σ1 H1 s1 g1.unwx
      | ct e1 => exact fun F1 σ1 H1 s1 g1 => q F1 σ1 H1 s1 g1.unwx
      | rt r e1 => exact fun F1 σ1 H1 v s1 g1 rt => q F1 σ1 H1 v s1 g1.unwx (by cases r <;> exact rt)
      | ex c e1 => exact absurd he (by rename_i hr; exact hr c e1)
/-- isinstance(e, T), e the exception in hand -/
theorem j_isX {a : Addr} {oe : Obj} {D : Addr} {pn : List (Addr × Obj)} {ec : EC} {y : Str} {q : Pos} {X' : Cx} (hX : X' = X.suite a ((a, oe) :: pn)) (hD : X.mg ec.nm = some (.ref D)) (hz : Zc (.ref D) none oe) (hfl : ∃ vs, oe.data = .fields vs) (hI : ExI X.K X.mg y tb) (hm : X.mg "isinstance" = none)
    (hv : PE X' e (tVar i)) (hg : Gl X' "isinstance" := by rfl) (hgy : Gl X' y := by rfl) (hdb : (y == ("__debug__" : Str)) = false := by decide) (hs : starEach [e, .Name y q] X'.env = (false, eval e X'.env) :: starEach [.Name y q] X'.env := by rfl)
    (hs2 : starEach [.Name y q] X'.env = (false, eval (.Name y q) X'.env) :: starEach [] X'.env := by rfl) (hpl : (backTo pos (starEach [.Name y q] X'.env)).any (·.1) = false := by rfl) :
    JE X' (C.suite a i) (.Call (.Name "isinstance" p) [e, .Name y q] [] pos) (eIsX (tbF tb) ec) := by
  subst hX
  obtain ⟨c, v, hc, r, hu, ht⟩ := hI
  have hT : PE (X.suite a ((a, oe) :: pn)) (.Name y q) (tC v) := by
    rcases hc with hc | ⟨h1, h2, h3⟩
    · exact pe_glob hgy hc r hdb
    · exact pe_bltn hgy h1 h2 r h3 hdb
  have find : ∀ b, tbF tb ec.nm = some b → ExcC X.K D ∧ PySem.W.kitOne X.K (.ref D) c = some b := fun b h => by
    obtain ⟨D', d1, d2, d3⟩ := ht _ (tbF_mem h)
    have d1' : X.mg ec.nm = some (.ref D') := d1
    rw [hD] at d1'
    cases d1'
    exact ⟨d2, d3⟩
  cases hb : tbF tb ec.nm with
  | none => exact ⟨fun pins s σ H Q I ⟨F, env, rv, env', hd, he, _⟩ => by simp only [eIsX, hb] at he; cases he⟩
  | some b =>
    obtain ⟨eC, hk⟩ := find b hb
    refine pe_weak (pe_callB (call_isE eC hz hfl) hg hm bt_isinstance (pa_cons hv (pa_cons hT pa_nil hs2) hs) (he := hs) (hpl := hpl)) fun σ H Q ⟨F, env, rv, env', hd, he, q⟩ => ?_
    simp only [eIsX, hb] at he
    cases he
    have h0 : σ[i]? = some (some (V.ref a)) := hd.mps 0 i a rfl rfl
    exact ⟨_, h0, v, c, b, rfl, hu, hk, q F H _ Stp.refl hd (.bl b)⟩
end
/-! ### f(*x) -/
section
variable {X : Cx} {C : FC} {e : Expr} {f : M RV} {p pos sp_ : Pos} {k : Nat}
theorem lim_line {n : Nat} (h : n < limit) : n ≤ sizeLine := by rw [sizeLine_eq]; unfold limit at h; omega
theorem j_callVS {x : Str} {kg : Nat} {fn : FnS} (Cg : CalV X.prog X.w X.K X.mg X.base x kg fn) (hr : Room k X.A) (hk : kg ≤ k) (ha : JE X C e f) (hg : Gl X x := by rfl)
    (hdb : (x == ("__debug__" : Str)) = false := by decide) (hst : starEach [.Starred e sp_] X.env = [(true, eval e X.env)] := by rfl) : JE X C (.Call (.Name x p) [.Starred e sp_] [] pos) (eCallV fn (aStar f)) := by
  obtain ⟨fa, F, hm, kp⟩ := Cg
  refine pe_weak (StX.pe_callS1 F (hr.mono hk) kp hg hm pass0 ha hdb hst) fun σ H Q ⟨F0, env, rv, env', hd, he, q⟩ => ?_
  simp only [eCallV] at he
  split at he
  · rename_i ds e1 h1
    split at he
    · rename_i r h2
      cases he
      simp only [aStar] at h1
      split at h1
      · cases h1
      rename_i x0 e0 h0
      refine tJ.go hd h0 fun F1 H1 v s1 g1 r1 => ?_
      have fin : ∀ {F2 : Hp} {a : Addr} {vs : List V}, ds.length < limit → Stp F0 env σ H F2 env' H1 → Hd X.K C F2 env' σ H1 → RpA F2 vs ds → spV X.K fn vs H1 Q E0 := fun {F2 a vs} hl s2 g2 r2 => by
        refine ⟨F2, ds, r, g2.ex, r2, by rw [r2.length]; exact lim_line hl, h2, fun v F' H' s1' s2' kp old dom res => ?_⟩
        obtain ⟨g3, s3, nn⟩ := g2.called (is := []) (as := []) (ms := []) .nil (fun i h => absurd h (by simp)) rfl s1' s2' (fun a o z _ => kp a o z) old dom .nil
        refine q F' H' v (s2.trans s3) g3 ?_
        cases r with
        | fz d => exact res
        | ow ds' =>
          obtain ⟨a, ws, rfl, p1, p2, p3, p4⟩ := res
          exact ⟨a, ws, rfl, p3, p2, p4, s2.old a p1, nn a p1⟩
        | nt o => exact ⟨res.1, fun a m => ⟨s2.old a (res.2 a m), nn a (res.2 a m)⟩⟩
      split at h1
      · rename_i ds' e2 hz
        split at h1
        case isFalse => cases h1
        rename_i hl
        cases h1
        obtain ⟨F2, s2, g2, r2, _⟩ := g1.fzv hd s1 r1 hz
        cases r2 with
        | tup t1 t2 => exact ⟨_, _, rfl, .inl (t1.up g2.ex).sq, fin (a := 0) hl s2 g2 t2⟩
      · rename_i ds' e2 hz
        split at h1
        case isFalse => cases h1
        rename_i hl
        cases h1
        obtain ⟨F2, s2, g2, r2, _⟩ := g1.fzv hd s1 r1 hz
        cases r2 with
        | lst t1 t2 => exact ⟨_, _, rfl, .inr (SqL.of (g2.ex _ _ t1)), fin (a := 0) hl s2 g2 t2⟩
      · cases h1
    · cases he
  · cases he
end
section
variable {X : Cx} {C : FC} {x : Str} {p pos pos' : Pos}
/-- raise X() -/
theorem js_raiseR (hR : ExR X.K X.mg x) (hc : X.calm = true) (tk : Takes X C.wx) (hL : C.cl = X.mg) (hg : Gl X x := by rfl) (hdb : (x == ("__debug__" : Str)) = false := by decide) : JS X C (.Raise (some (.Call (.Name x p) [] [] pos)) none pos') (sRaise x) := by
  obtain ⟨D, bmB, B, newId, initId, F, q, gC, kC, b, t⟩ := hR
  exact js_raise hc tk (by rw [hL]; exact gC) (pmk_own0 F q gC kC (raises_own b t) hg hdb)
end
theorem exR_mk {K : Fr} {h : Heap} {mg : Str → Option Value} {x : Str} {D : Addr} (hm : mg x = some (.ref D)) (q : PySem.W.excIn K D [.type "ValueError", .type "Exception", .type "BaseException", .type "object"] "ValueError.__new__" = true) (k : PySem.W.keepIn K (.ref D) = true)
    (b : PySem.W.subIn K (.ref D) (.type "BaseException") = some true) (t : PySem.W.typeIn K (.ref D) = some (.type "type")) : ExR K mg x := ⟨D, _, _, _, _, PySem.F.excBase_ValueError, q, hm, k, b, t⟩
theorem tb_nil {P : Str × Bool → Prop} : ∀ p ∈ ([] : List (Str × Bool)), P p := fun p m => absurd m (by simp)
theorem tb_cons {P : Str × Bool → Prop} {a : Str × Bool} {l : List (Str × Bool)} (h : P a) (t : ∀ p ∈ l, P p) : ∀ p ∈ a :: l, P p := fun p m => by
  rcases List.mem_cons.mp m with e | m
  · rw [e]; exact h
  · exact t p m
end J
namespace K15
open PySem L2 J
def top (i : Nat) : Stmt := PySem.Challenge.pw_sennit_k15_whole_braid_back.main.body.getD i (.Pass ⟨0, 0, 0, 0⟩)
abbrev s__law_cell : Stmt := top 20
abbrev s__law_purse : Stmt := top 21
abbrev s__law_start : Stmt := top 26
abbrev s__law_take : Stmt := top 22
abbrev s__law_reduced : Stmt := top 23
abbrev s__law_against : Stmt := top 24
abbrev s__law_moved : Stmt := top 25
abbrev s__law_letter : Stmt := top 27
abbrev s__law_images : Stmt := top 28
abbrev s__law_conjugated : Stmt := top 29
abbrev s__law_turned : Stmt := top 30
abbrev s__law_put : Stmt := top 31
abbrev s__law_round : Stmt := top 33
abbrev s__law_behind : Stmt := top 32
abbrev s__law_spoilt : Stmt := top 34
abbrev s__law_is_conjugate : Stmt := top 35
abbrev s__law_is_due : Stmt := top 36
abbrev s_free_word : Stmt := top 5
abbrev s_free_product : Stmt := top 6
abbrev s_free_inverse : Stmt := top 7
abbrev s_conjugate_parts : Stmt := top 9
abbrev s_is_braid_row : Stmt := top 16
abbrev s_conjugated_free : Stmt := top 8
abbrev s__over : Stmt := top 13
abbrev s__under : Stmt := top 14
abbrev s__shortening_letter : Stmt := top 17
abbrev s_inverse_word : Stmt := top 11
abbrev s_act : Stmt := top 15
abbrev s_braid_of : Stmt := top 18
abbrev s__law_asked : Stmt := top 38
abbrev s__law_leads : Stmt := top 37
abbrev s__law_row_holds : Stmt := top 39
abbrev s_law : Stmt := top 40
structure Txt (mg : Str → Option Value) : Prop where
  b_abs : mg "abs" = none
  b_bool : mg "bool" = none
  b_int : mg "int" = none
  b_isinstance : mg "isinstance" = none
  b_len : mg "len" = none
  b_list : mg "list" = none
  b_max : mg "max" = none
  b_range : mg "range" = none
  b_reversed : mg "reversed" = none
  b_sum : mg "sum" = none
  b_tuple : mg "tuple" = none
structure Exs (K : Fr) (mg : Str → Option Value) : Prop where
  r_NotBraidRow : ExR K mg "NotBraidRow"
  m_NotBraidRow : ExM K mg "NotBraidRow" [("NotBraidRow", true)]
  i_BraidError : ExI K mg "BraidError" [("NotBraidRow", true)]
  i_ValueError : ExI K mg "ValueError" [("NotBraidRow", true)]
  i_NotPure : ExI K mg "NotPure" [("NotBraidRow", false)]
section
variable {P : Program} {w : World} {K : Fr} {mg : Str → Option Value} {base : Heap}
theorem sc__law_cell : FnScope ["script", "k", "one"] ["script", "k"] (defScope s__law_cell) := ⟨rfl, rfl, rfl, by decide +kernel, rfl, by decide +kernel, by decide +kernel⟩
theorem d__law_cell {fa : Addr} {fd : FuncData} (Fu : Fun K "_law_cell" "_law_cell" s__law_cell fa fd) (T : Txt mg) (T2 : Exs K mg) : FnOk P w K mg base CX0 1 fa fd ["script", "k"] (spJ K [.sc, .bw] f__law_cell) :=
  fnJ (k := 0) (n := 1) (f := b__law_cell) Fu sc__law_cell rfl rfl fun cdv A outer s H E C hr hC hL hW =>
    (jss_cons (js_if (jt_cmp op_lt s_lt (je_var (pv 1)) (j_scLen T.b_len (pv 0)) (nomark _)) (jss_one (js_ret (j_int T.b_int (j_scIx (pv 0) (je_var (pv 1)))))) jss_nil) (jss_one (js_ret (je_op (op_add.or (op_cat.or (op_catZ.or op_cat0))) s_add (j_sum T.b_sum (je_lc hC (by decide) nn_nm (pe_lc (own := [("one", 2)]) rfl sc__law_cell.nd (ji_seq (j_scSl (pv 0) jo_no (jo_so je_int))) (blkOk_by (N := ["script", "k", "one"]) (sc := defScope s__law_cell) (by decide +kernel)) (fun _ _ _ _ _ => And.left (jgx [2] (jg_nm hC (by decide) (by decide) (pg_name (i := 2) sc__law_cell.nd rfl (Or.inl rfl))))) (fun _ _ _ _ _ => jts_nil) (fun _ _ _ _ _ => (je_op op_modN s_mod (j_int T.b_int (je_var (pv 2))) je_int))))) (je_op (op_mul.or (op_mulW.or (op_rep.or op_repZ))) s_mul je_int (je_op (op_add.or (op_cat.or (op_catZ.or op_cat0))) s_add (je_var (pv 1)) je_int))))))
theorem sc__law_purse : FnScope ["script", "k", "cell"] ["script", "k"] (defScope s__law_purse) := ⟨rfl, rfl, rfl, by decide +kernel, rfl, by decide +kernel, by decide +kernel⟩
theorem d__law_purse {fa : Addr} {fd : FuncData} (Fu : Fun K "_law_purse" "_law_purse" s__law_purse fa fd) (T : Txt mg) (T2 : Exs K mg) (G__law_cell : Cal P w K mg base "_law_cell" 1 ["script", "k"] [.sc, .bw] f__law_cell) : FnOk P w K mg base CX0 2 fa fd ["script", "k"] (spJ K [.sc, .bw] f__law_purse) :=
  fnJ (k := 1) (n := 1) (f := b__law_purse) Fu sc__law_purse rfl rfl fun cdv A outer s H E C hr hC hL hW =>
    (jss_cons (js_asgF hC (by decide) (ps_set (i := 2) sc__law_purse.nd rfl (Or.inl rfl) (j_call G__law_cell hr (by decide) (jar_sc (pv 0) (jar_bw (je_var (pv 1)) jar_nil)) rfl))) (jss_cons (js_if (jt_cmp op_ge s_ge (je_var (pv 2)) (je_op op_pow s_pow je_int je_int) (nomark _)) (jss_one (js_ret (je_lst (ja_cons (je_var (pv 2)) (ja_cons (je_op op_modN s_mod (j_int T.b_int (je_var (pv 2))) je_int) (ja_cons je_int ja_nil)))))) jss_nil) (jss_one (js_ret (je_lst (ja_cons je_int (ja_cons (je_op op_modN s_mod (j_int T.b_int (je_var (pv 2))) je_int) (ja_cons je_int ja_nil))))))))
theorem sc__law_start : FnScope ["strands", "k"] ["strands"] (defScope s__law_start) := ⟨rfl, rfl, rfl, by decide +kernel, rfl, by decide +kernel, by decide +kernel⟩
theorem d__law_start {fa : Addr} {fd : FuncData} (Fu : Fun K "_law_start" "_law_start" s__law_start fa fd) (T : Txt mg) (T2 : Exs K mg) : FnOk P w K mg base CX0 1 fa fd ["strands"] (spJ K [.bw] f__law_start) :=
  fnJ (k := 0) (n := 1) (f := b__law_start) Fu sc__law_start rfl rfl fun cdv A outer s H E C hr hC hL hW =>
    (jss_one (js_ret (je_lc hC (by decide) nn_nm (pe_lc (own := [("k", 1)]) rfl sc__law_start.nd (ji_r1 (pi_range1 rfl T.b_range (pa_cons (je_var (pv 0)) pa_nil))) (blkOk_by (N := ["strands", "k"]) (sc := defScope s__law_start) (by decide +kernel)) (fun _ _ _ _ _ => And.left (jgx [1] (jg_nm hC (by decide) (by decide) (pg_name (i := 1) sc__law_start.nd rfl (Or.inl rfl))))) (fun _ _ _ _ _ => jts_nil) (fun _ _ _ _ _ => (je_tup (ja_cons (je_op (op_add.or (op_cat.or (op_catZ.or op_cat0))) s_add (je_var (pv 1)) je_int) ja_nil)))))))
theorem sc__law_take : FnScope ["purse", "size", "found", "mixed"] ["purse", "size"] (defScope s__law_take) := ⟨rfl, rfl, rfl, by decide +kernel, rfl, by decide +kernel, by decide +kernel⟩
theorem d__law_take {fa : Addr} {fd : FuncData} (Fu : Fun K "_law_take" "_law_take" s__law_take fa fd) (T : Txt mg) (T2 : Exs K mg) : FnOk P w K mg base CX0 1 fa fd ["purse", "size"] (spJ K [.mt, .bw] f__law_take) :=
  fnJ (k := 0) (n := 2) (f := b__law_take) Fu sc__law_take rfl rfl fun cdv A outer s H E C hr hC hL hW =>
    (jss_cons (js_set (ps_asg (je_op (op_add.or (op_cat.or (op_catZ.or op_cat0))) s_add (j_ix (je_var (pv 0)) je_int) je_int) (pg_sub (pv 0) je_int set_list))) (jss_cons (js_if (jt_cmp op_gt s_gt (j_ix (je_var (pv 0)) je_int) je_int (nomark _)) (jss_cons (js_asg hC (by decide) (ps_set (i := 2) sc__law_take.nd rfl (Or.inl rfl) (je_op op_modN s_mod (j_int T.b_int (j_ix (je_var (pv 0)) je_int)) (je_var (pv 1))))) (jss_cons (js_set (ps_asg (je_op op_fdivN s_fdiv (j_ix (je_var (pv 0)) je_int) (je_var (pv 1))) (pg_sub (pv 0) je_int set_list))) (jss_one (js_ret (je_var (pv 2)))))) jss_nil) (jss_cons (js_asgF hC (by decide) (ps_set (i := 3) sc__law_take.nd rfl (Or.inl rfl) (je_op op_modN s_mod (j_int T.b_int (je_op (op_add.or (op_cat.or (op_catZ.or op_cat0))) s_add (je_op (op_mul.or (op_mulW.or (op_rep.or op_repZ))) s_mul (j_ix (je_var (pv 0)) je_int) je_int) (je_op (op_mul.or (op_mulW.or (op_rep.or op_repZ))) s_mul (j_ix (je_var (pv 0)) je_int) je_int))) je_int))) (jss_cons (js_asgF hC (by decide) (ps_set (i := 3) sc__law_take.nd rfl (Or.inl rfl) (je_op op_modN s_mod (j_int T.b_int (je_op (op_add.or (op_cat.or (op_catZ.or op_cat0))) s_add (je_op (op_mul.or (op_mulW.or (op_rep.or op_repZ))) s_mul (je_var (pv 3)) (je_op (op_add.or (op_cat.or (op_catZ.or op_cat0))) s_add je_int (je_op op_modN s_mod (j_int T.b_int (je_var (pv 3))) je_int))) (je_op (op_mul.or (op_mulW.or (op_rep.or op_repZ))) s_mul (j_ix (je_var (pv 0)) je_int) je_int))) je_int))) (jss_one (js_ret (je_op op_modN s_mod (j_int T.b_int (je_op op_fdivN s_fdiv (je_var (pv 3)) je_int)) (je_var (pv 1)))))))))
theorem sc__law_reduced : FnScope ["letters", "kept", "letter"] ["letters"] (defScope s__law_reduced) := ⟨rfl, rfl, rfl, by decide +kernel, rfl, by decide +kernel, by decide +kernel⟩
theorem d__law_reduced {fa : Addr} {fd : FuncData} (Fu : Fun K "_law_reduced" "_law_reduced" s__law_reduced fa fd) (T : Txt mg) (T2 : Exs K mg) : FnOk P w K mg base CX0 1 fa fd ["letters"] (spJ K [.bw] f__law_reduced) :=
  fnJ (k := 0) (n := 2) (f := b__law_reduced) Fu sc__law_reduced rfl rfl fun cdv A outer s H E C hr hC hL hW =>
    (jss_cons (js_asg hC (by decide) (ps_set (i := 1) sc__law_reduced.nd rfl (Or.inl rfl) (je_lst ja_nil))) (jss_cons (js_for (sl := [2]) PassesOwn.never rfl (ji_seq (je_var (pv 0))) (jg_nm hC (by decide) (by decide) (pg_name (i := 2) sc__law_reduced.nd rfl (Or.inl rfl))) (jss_one (js_if (jt_w (jw_and (jt_tru (je_var (pv 1))) (jw_and1 (jt_cmp (op_eqD hr.units) s_eq (j_ix (je_var (pv 1)) (je_un un_neg s_neg je_int)) (je_un un_neg s_neg (je_var (pv 2))) (nomark _))))) (jss_one (js_drop (ps_expr (je_pop (pe_bm0 PySem.F.plainAttrs_list PySem.F.slot_list_pop PySem.F.type_list_pop mt_pop (pv 1)))))) (jss_one (js_app (ps_expr (pe_bm PySem.F.plainAttrs_list PySem.F.slot_list_append PySem.F.type_list_append mt_append (pv 1) (pa_cons (je_var (pv 2)) pa_nil)))))))) (jss_one (js_ret (j_tuple T.b_tuple (je_var (pv 1)))))))
theorem sc__law_against : FnScope ["word", "letter"] ["word"] (defScope s__law_against) := ⟨rfl, rfl, rfl, by decide +kernel, rfl, by decide +kernel, by decide +kernel⟩
theorem d__law_against {fa : Addr} {fd : FuncData} (Fu : Fun K "_law_against" "_law_against" s__law_against fa fd) (T : Txt mg) (T2 : Exs K mg) : FnOk P w K mg base CX0 1 fa fd ["word"] (spJ K [.bw] f__law_against) :=
  fnJ (k := 0) (n := 1) (f := b__law_against) Fu sc__law_against rfl rfl fun cdv A outer s H E C hr hC hL hW =>
    (jss_one (js_ret (j_tuple T.b_tuple (je_lc hC (by decide) nn_nm (pe_lc (own := [("letter", 1)]) rfl sc__law_against.nd (j_irev T.b_reversed (j_list T.b_list (je_var (pv 0)))) (blkOk_by (N := ["word", "letter"]) (sc := defScope s__law_against) (by decide +kernel)) (fun _ _ _ _ _ => And.left (jgx [1] (jg_nm hC (by decide) (by decide) (pg_name (i := 1) sc__law_against.nd rfl (Or.inl rfl))))) (fun _ _ _ _ _ => jts_nil) (fun _ _ _ _ _ => (je_un un_neg s_neg (je_var (pv 1)))))))))
theorem sc__law_moved : FnScope ["row", "letter", "entries", "i", "first", "second"] ["row", "letter"] (defScope s__law_moved) := ⟨rfl, rfl, rfl, by decide +kernel, rfl, by decide +kernel, by decide +kernel⟩
theorem d__law_moved {fa : Addr} {fd : FuncData} (Fu : Fun K "_law_moved" "_law_moved" s__law_moved fa fd) (T : Txt mg) (T2 : Exs K mg) (G__law_reduced : Cal P w K mg base "_law_reduced" 1 ["letters"] [.bw] f__law_reduced) (G__law_against : Cal P w K mg base "_law_against" 1 ["word"] [.bw] f__law_against) : FnOk P w K mg base CX0 2 fa fd ["row", "letter"] (spJ K [.bw, .bw] f__law_moved) :=
  fnJ (k := 1) (n := 4) (f := b__law_moved) Fu sc__law_moved rfl rfl fun cdv A outer s H E C hr hC hL hW =>
    (jss_cons (js_asg hC (by decide) (ps_set (i := 2) sc__law_moved.nd rfl (Or.inl rfl) (j_list T.b_list (je_var (pv 0))))) (jss_cons (js_asgF hC (by decide) (ps_set (i := 3) sc__law_moved.nd rfl (Or.inl rfl) (je_op op_sub s_sub (j_abs T.b_abs (je_var (pv 1))) je_int))) (jss_cons (js_asgF hC (by decide) (ps_set (i := 4) sc__law_moved.nd rfl (Or.inl rfl) (j_ix (je_var (pv 2)) (je_var (pv 3))))) (jss_cons (js_asgF hC (by decide) (ps_set (i := 5) sc__law_moved.nd rfl (Or.inl rfl) (j_ix (je_var (pv 2)) (je_op (op_add.or (op_cat.or (op_catZ.or op_cat0))) s_add (je_var (pv 3)) je_int)))) (jss_cons (js_if (jt_cmp op_gt s_gt (je_var (pv 1)) je_int (nomark _)) (jss_cons (js_set (ps_asg (j_call G__law_reduced hr (by decide) (jar_bw (je_op (op_add.or (op_cat.or (op_catZ.or op_cat0))) s_add (je_op (op_add.or (op_cat.or (op_catZ.or op_cat0))) s_add (je_var (pv 4)) (je_var (pv 5))) (j_call G__law_against hr (by decide) (jar_bw (je_var (pv 4)) jar_nil) rfl)) jar_nil) rfl) (pg_sub (pv 2) (je_var (pv 3)) set_list))) (jss_one (js_set (ps_asg (je_var (pv 4)) (pg_sub (pv 2) (je_op (op_add.or (op_cat.or (op_catZ.or op_cat0))) s_add (je_var (pv 3)) je_int) set_list))))) (jss_cons (js_set (ps_asg (je_var (pv 5)) (pg_sub (pv 2) (je_var (pv 3)) set_list))) (jss_one (js_set (ps_asg (j_call G__law_reduced hr (by decide) (jar_bw (je_op (op_add.or (op_cat.or (op_catZ.or op_cat0))) s_add (je_op (op_add.or (op_cat.or (op_catZ.or op_cat0))) s_add (j_call G__law_against hr (by decide) (jar_bw (je_var (pv 5)) jar_nil) rfl) (je_var (pv 4))) (je_var (pv 5))) jar_nil) rfl) (pg_sub (pv 2) (je_op (op_add.or (op_cat.or (op_catZ.or op_cat0))) s_add (je_var (pv 3)) je_int) set_list)))))) (jss_one (js_ret (je_var (pv 2)))))))))
theorem sc__law_letter : FnScope ["purse", "size", "letter"] ["purse", "size"] (defScope s__law_letter) := ⟨rfl, rfl, rfl, by decide +kernel, rfl, by decide +kernel, by decide +kernel⟩
theorem d__law_letter {fa : Addr} {fd : FuncData} (Fu : Fun K "_law_letter" "_law_letter" s__law_letter fa fd) (T : Txt mg) (T2 : Exs K mg) (G__law_take : Cal P w K mg base "_law_take" 1 ["purse", "size"] [.mt, .bw] f__law_take) : FnOk P w K mg base CX0 2 fa fd ["purse", "size"] (spJ K [.mt, .bw] f__law_letter) :=
  fnJ (k := 1) (n := 1) (f := b__law_letter) Fu sc__law_letter rfl rfl fun cdv A outer s H E C hr hC hL hW =>
    (jss_cons (js_asg hC (by decide) (ps_set (i := 2) sc__law_letter.nd rfl (Or.inl rfl) (je_op (op_add.or (op_cat.or (op_catZ.or op_cat0))) s_add je_int (j_call G__law_take hr (by decide) (jar_mt (pv 0) (jar_bw (je_var (pv 1)) jar_nil)) rfl)))) (jss_cons (js_if (jt_cmp (op_eqD hr.units) s_eq (j_call G__law_take hr (by decide) (jar_mt (pv 0) (jar_bw je_int jar_nil)) rfl) je_int (nomark _)) (jss_one (js_ret (je_un un_neg s_neg (je_var (pv 2))))) jss_nil) (jss_one (js_ret (je_var (pv 2))))))
theorem sc__law_images : FnScope ["purse", "strands", "limit", "row", "many", "turn", "grown", "one"] ["purse", "strands", "limit"] (defScope s__law_images) := ⟨rfl, rfl, rfl, by decide +kernel, rfl, by decide +kernel, by decide +kernel⟩
theorem d__law_images {fa : Addr} {fd : FuncData} (Fu : Fun K "_law_images" "_law_images" s__law_images fa fd) (T : Txt mg) (T2 : Exs K mg) (G__law_start : Cal P w K mg base "_law_start" 1 ["strands"] [.bw] f__law_start) (G__law_take : Cal P w K mg base "_law_take" 1 ["purse", "size"] [.mt, .bw] f__law_take) (G__law_moved : Cal P w K mg base "_law_moved" 2 ["row", "letter"] [.bw, .bw] f__law_moved) (G__law_letter : Cal P w K mg base "_law_letter" 2 ["purse", "size"] [.mt, .bw] f__law_letter) : FnOk P w K mg base CX0 3 fa fd ["purse", "strands", "limit"] (spJ K [.mt, .bw, .bw] f__law_images) :=
  fnJ (k := 2) (n := 5) (f := b__law_images) Fu sc__law_images rfl rfl fun cdv A outer s H E C hr hC hL hW =>
    (jss_cons (js_asg hC (by decide) (ps_set (i := 3) sc__law_images.nd rfl (Or.inl rfl) (j_call G__law_start hr (by decide) (jar_bw (je_var (pv 1)) jar_nil) rfl))) (jss_cons (js_if (jt_cmp (op_eqD hr.units) s_eq (je_var (pv 1)) je_int (nomark _)) (jss_one (js_ret (je_var (pv 3)))) jss_nil) (jss_cons (js_asgF hC (by decide) (ps_set (i := 4) sc__law_images.nd rfl (Or.inl rfl) (j_call G__law_take hr (by decide) (jar_mt (pv 0) (jar_bw je_int jar_nil)) rfl))) (jss_cons (js_if (jt_cmp (op_eqD hr.units) s_eq (je_var (pv 4)) je_int (nomark _)) (jss_one (js_asgF hC (by decide) (ps_set (i := 4) sc__law_images.nd rfl (Or.inl rfl) (je_op (op_add.or (op_cat.or (op_catZ.or op_cat0))) s_add je_int (j_call G__law_take hr (by decide) (jar_mt (pv 0) (jar_bw je_int jar_nil)) rfl))))) jss_nil) (jss_cons (js_for (sl := [5]) PassesOwn.never rfl (ji_r1 (pi_range1 rfl T.b_range (pa_cons (je_var (pv 4)) pa_nil))) (jg_nm hC (by decide) (by decide) (pg_name (i := 5) sc__law_images.nd rfl (Or.inl rfl))) (jss_cons (js_asgF hC (by decide) (ps_set (i := 6) sc__law_images.nd rfl (Or.inl rfl) (j_call G__law_moved hr (by decide) (jar_bw (je_var (pv 3)) (jar_bw (j_call G__law_letter hr (by decide) (jar_mt (pv 0) (jar_bw (je_op op_sub s_sub (je_var (pv 1)) je_int) jar_nil)) rfl) jar_nil)) rfl))) (jss_one (js_if (jt_cmp op_le s_le (j_sum T.b_sum (je_lc hC (by decide) nn_nm (pe_lc (own := [("one", 7)]) rfl sc__law_images.nd (ji_seq (je_var (pv 6))) (blkOk_by (N := ["purse", "strands", "limit", "row", "many", "turn", "grown", "one"]) (sc := defScope s__law_images) (by decide +kernel)) (fun _ _ _ _ _ => And.left (jgx [7] (jg_nm hC (by decide) (by decide) (pg_name (i := 7) sc__law_images.nd rfl (Or.inl rfl))))) (fun _ _ _ _ _ => jts_nil) (fun _ _ _ _ _ => (j_len T.b_len (je_var (pv 7))))))) (je_var (pv 2)) (nomark _)) (jss_one (js_asg hC (by decide) (ps_set (i := 3) sc__law_images.nd rfl (Or.inl rfl) (je_var (pv 6))))) jss_nil)))) (jss_one (js_ret (je_var (pv 3)))))))))
theorem sc__law_conjugated : FnScope ["entry", "by"] ["entry", "by"] (defScope s__law_conjugated) := ⟨rfl, rfl, rfl, by decide +kernel, rfl, by decide +kernel, by decide +kernel⟩
theorem d__law_conjugated {fa : Addr} {fd : FuncData} (Fu : Fun K "_law_conjugated" "_law_conjugated" s__law_conjugated fa fd) (T : Txt mg) (T2 : Exs K mg) (G__law_reduced : Cal P w K mg base "_law_reduced" 1 ["letters"] [.bw] f__law_reduced) (G__law_against : Cal P w K mg base "_law_against" 1 ["word"] [.bw] f__law_against) : FnOk P w K mg base CX0 2 fa fd ["entry", "by"] (spJ K [.bw, .bw] f__law_conjugated) :=
  fnJ (k := 1) (n := 0) (f := b__law_conjugated) Fu sc__law_conjugated rfl rfl fun cdv A outer s H E C hr hC hL hW =>
    (jss_one (js_ret (j_call G__law_reduced hr (by decide) (jar_bw (je_op (op_add.or (op_cat.or (op_catZ.or op_cat0))) s_add (je_op (op_add.or (op_cat.or (op_catZ.or op_cat0))) s_add (je_var (pv 1)) (je_var (pv 0))) (j_call G__law_against hr (by decide) (jar_bw (je_var (pv 1)) jar_nil) rfl)) jar_nil) rfl)))
theorem sc__law_turned : FnScope ["purse", "row", "strands", "most", "way", "exponent", "by", "entry", "k"] ["purse", "row"] (defScope s__law_turned) := ⟨rfl, rfl, rfl, by decide +kernel, rfl, by decide +kernel, by decide +kernel⟩
theorem d__law_turned {fa : Addr} {fd : FuncData} (Fu : Fun K "_law_turned" "_law_turned" s__law_turned fa fd) (T : Txt mg) (T2 : Exs K mg) (G__law_take : Cal P w K mg base "_law_take" 1 ["purse", "size"] [.mt, .bw] f__law_take) (G__law_against : Cal P w K mg base "_law_against" 1 ["word"] [.bw] f__law_against) (G__law_conjugated : Cal P w K mg base "_law_conjugated" 2 ["entry", "by"] [.bw, .bw] f__law_conjugated) : FnOk P w K mg base CX0 3 fa fd ["purse", "row"] (spJ K [.mt, .bw] f__law_turned) :=
  fnJ (k := 2) (n := 7) (f := b__law_turned) Fu sc__law_turned rfl rfl fun cdv A outer s H E C hr hC hL hW =>
    (jss_cons (js_asgF hC (by decide) (ps_set (i := 2) sc__law_turned.nd rfl (Or.inl rfl) (j_len T.b_len (je_var (pv 1))))) (jss_cons (js_asgF hC (by decide) (ps_set (i := 3) sc__law_turned.nd rfl (Or.inl rfl) (j_ix (je_lst (ja_cons je_int (ja_cons je_int (ja_cons je_int (ja_cons je_int (ja_cons je_int (ja_cons je_int (ja_cons je_int (ja_cons je_int (ja_cons je_int ja_nil)))))))))) (je_var (pv 2))))) (jss_cons (js_asgF hC (by decide) (ps_set (i := 4) sc__law_turned.nd rfl (Or.inl rfl) (j_call G__law_take hr (by decide) (jar_mt (pv 0) (jar_bw je_int jar_nil)) rfl))) (jss_cons (js_asgF hC (by decide) (ps_set (i := 5) sc__law_turned.nd rfl (Or.inl rfl) je_int)) (jss_cons (js_if (jt_cmp (op_eqD hr.units) s_eq (je_var (pv 4)) je_int (nomark _)) (jss_one (js_asgF hC (by decide) (ps_set (i := 5) sc__law_turned.nd rfl (Or.inl rfl) (je_op op_sub s_sub (j_call G__law_take hr (by decide) (jar_mt (pv 0) (jar_bw je_int jar_nil)) rfl) je_int)))) jss_nil) (jss_cons (js_if (jt_cmp (op_eqD hr.units) s_eq (je_var (pv 4)) je_int (nomark _)) (jss_one (js_asgF hC (by decide) (ps_set (i := 5) sc__law_turned.nd rfl (Or.inl rfl) (je_op op_sub s_sub (j_call G__law_take hr (by decide) (jar_mt (pv 0) (jar_bw (je_op (op_add.or (op_cat.or (op_catZ.or op_cat0))) s_add (je_op (op_mul.or (op_mulW.or (op_rep.or op_repZ))) s_mul je_int (je_var (pv 3))) je_int) jar_nil)) rfl) (je_var (pv 3)))))) jss_nil) (jss_cons (js_asgF hC (by decide) (ps_set (i := 6) sc__law_turned.nd rfl (Or.inr rfl) (je_op (op_mul.or (op_mulW.or (op_rep.or op_repZ))) s_mul (j_tuple T.b_tuple (je_lc hC (by decide) nn_nm (pe_lc (own := [("k", 8)]) rfl sc__law_turned.nd (ji_r1 (pi_range1 rfl T.b_range (pa_cons (je_var (pv 2)) pa_nil))) (blkOk_by (N := ["purse", "row", "strands", "most", "way", "exponent", "by", "entry", "k"]) (sc := defScope s__law_turned) (by decide +kernel)) (fun _ _ _ _ _ => And.left (jgx [8] (jg_nm hC (by decide) (by decide) (pg_name (i := 8) sc__law_turned.nd rfl (Or.inl rfl))))) (fun _ _ _ _ _ => jts_nil) (fun _ _ _ _ _ => (je_op (op_add.or (op_cat.or (op_catZ.or op_cat0))) s_add (je_var (pv 8)) je_int))))) (j_abs T.b_abs (je_var (pv 5)))))) (jss_cons (js_if (jt_cmp op_lt s_lt (je_var (pv 5)) je_int (nomark _)) (jss_one (js_asgF hC (by decide) (ps_set (i := 6) sc__law_turned.nd rfl (Or.inr rfl) (j_call G__law_against hr (by decide) (jar_bw (je_var (pv 6)) jar_nil) rfl)))) jss_nil) (jss_one (js_ret (je_lc hC (by decide) nn_nm (pe_lc (own := [("entry", 7)]) rfl sc__law_turned.nd (ji_seq (je_var (pv 1))) (blkOk_by (N := ["purse", "row", "strands", "most", "way", "exponent", "by", "entry", "k"]) (sc := defScope s__law_turned) (by decide +kernel)) (fun _ _ _ _ _ => And.left (jgx [7] (jg_nm hC (by decide) (by decide) (pg_name (i := 7) sc__law_turned.nd rfl (Or.inl rfl))))) (fun _ _ _ _ _ => jts_nil) (fun _ _ _ _ _ => (j_call G__law_conjugated hr (by decide) (jar_bw (je_var (pv 7)) (jar_bw (je_var (pv 6)) jar_nil)) rfl))))))))))))))
theorem sc__law_put : FnScope ["row", "at", "entry", "changed"] ["row", "at", "entry"] (defScope s__law_put) := ⟨rfl, rfl, rfl, by decide +kernel, rfl, by decide +kernel, by decide +kernel⟩
theorem d__law_put {fa : Addr} {fd : FuncData} (Fu : Fun K "_law_put" "_law_put" s__law_put fa fd) (T : Txt mg) (T2 : Exs K mg) (G__law_reduced : Cal P w K mg base "_law_reduced" 1 ["letters"] [.bw] f__law_reduced) : FnOk P w K mg base CX0 2 fa fd ["row", "at", "entry"] (spJ K [.bw, .bw, .bw] f__law_put) :=
  fnJ (k := 1) (n := 1) (f := b__law_put) Fu sc__law_put rfl rfl fun cdv A outer s H E C hr hC hL hW =>
    (jss_cons (js_asg hC (by decide) (ps_set (i := 3) sc__law_put.nd rfl (Or.inl rfl) (j_list T.b_list (je_var (pv 0))))) (jss_cons (js_set (ps_asg (j_call G__law_reduced hr (by decide) (jar_bw (je_var (pv 2)) jar_nil) rfl) (pg_sub (pv 3) (je_var (pv 1)) set_list))) (jss_one (js_ret (je_var (pv 3))))))
theorem sc__law_round : FnScope ["row", "strands", "changed", "entry", "letters", "letter", "other"] ["row"] (defScope s__law_round) := ⟨rfl, rfl, rfl, by decide +kernel, rfl, by decide +kernel, by decide +kernel⟩
theorem d__law_round {fa : Addr} {fd : FuncData} (Fu : Fun K "_law_round" "_law_round" s__law_round fa fd) (T : Txt mg) (T2 : Exs K mg) : FnOk P w K mg base CX0 1 fa fd ["row"] (spJ K [.bw] f__law_round) :=
  fnJ (k := 0) (n := 6) (f := b__law_round) Fu sc__law_round rfl rfl fun cdv A outer s H E C hr hC hL hW =>
    (jss_cons (js_asgF hC (by decide) (ps_set (i := 1) sc__law_round.nd rfl (Or.inl rfl) (j_len T.b_len (je_var (pv 0))))) (jss_cons (js_asg hC (by decide) (ps_set (i := 2) sc__law_round.nd rfl (Or.inl rfl) (je_lst ja_nil))) (jss_cons (js_for (sl := [3]) PassesOwn.never rfl (ji_seq (je_var (pv 0))) (jg_nm hC (by decide) (by decide) (pg_name (i := 3) sc__law_round.nd rfl (Or.inl rfl))) (jss_cons (js_asg hC (by decide) (ps_set (i := 4) sc__law_round.nd rfl (Or.inl rfl) (je_lst ja_nil))) (jss_cons (js_for (sl := [5]) PassesOwn.never rfl (ji_seq (je_var (pv 3))) (jg_nm hC (by decide) (by decide) (pg_name (i := 5) sc__law_round.nd rfl (Or.inl rfl))) (jss_cons (js_asgF hC (by decide) (ps_set (i := 6) sc__law_round.nd rfl (Or.inl rfl) (je_op (op_add.or (op_cat.or (op_catZ.or op_cat0))) s_add (je_op op_modN s_mod (j_int T.b_int (j_abs T.b_abs (je_var (pv 5)))) (je_var (pv 1))) je_int))) (jss_cons (js_if (jt_cmp op_lt s_lt (je_var (pv 5)) je_int (nomark _)) (jss_one (js_asgF hC (by decide) (ps_set (i := 6) sc__law_round.nd rfl (Or.inl rfl) (je_un un_neg s_neg (je_var (pv 6)))))) jss_nil) (jss_one (js_app (ps_expr (pe_bm PySem.F.plainAttrs_list PySem.F.slot_list_append PySem.F.type_list_append mt_append (pv 4) (pa_cons (je_var (pv 6)) pa_nil)))))))) (jss_one (js_app (ps_expr (pe_bm PySem.F.plainAttrs_list PySem.F.slot_list_append PySem.F.type_list_append mt_append (pv 2) (pa_cons (j_tuple T.b_tuple (je_var (pv 4))) pa_nil)))))))) (jss_one (js_ret (je_var (pv 2)))))))
theorem sc__law_behind : FnScope ["purse", "row", "low", "first", "second", "by", "changed"] ["purse", "row"] (defScope s__law_behind) := ⟨rfl, rfl, rfl, by decide +kernel, rfl, by decide +kernel, by decide +kernel⟩
theorem d__law_behind {fa : Addr} {fd : FuncData} (Fu : Fun K "_law_behind" "_law_behind" s__law_behind fa fd) (T : Txt mg) (T2 : Exs K mg) (G__law_take : Cal P w K mg base "_law_take" 1 ["purse", "size"] [.mt, .bw] f__law_take) (G__law_letter : Cal P w K mg base "_law_letter" 2 ["purse", "size"] [.mt, .bw] f__law_letter) (G__law_put : Cal P w K mg base "_law_put" 2 ["row", "at", "entry"] [.bw, .bw, .bw] f__law_put) (G__law_against : Cal P w K mg base "_law_against" 1 ["word"] [.bw] f__law_against) : FnOk P w K mg base CX0 3 fa fd ["purse", "row"] (spJ K [.mt, .bw] f__law_behind) :=
  fnJ (k := 2) (n := 5) (f := b__law_behind) Fu sc__law_behind rfl rfl fun cdv A outer s H E C hr hC hL hW =>
    (jss_cons (js_asgF hC (by decide) (ps_set (i := 2) sc__law_behind.nd rfl (Or.inl rfl) (j_call G__law_take hr (by decide) (jar_mt (pv 0) (jar_bw (je_op op_sub s_sub (j_len T.b_len (je_var (pv 1))) je_int) jar_nil)) rfl))) (jss_cons (js_asgF hC (by decide) (ps_set (i := 3) sc__law_behind.nd rfl (Or.inl rfl) (j_call G__law_letter hr (by decide) (jar_mt (pv 0) (jar_bw (j_len T.b_len (je_var (pv 1))) jar_nil)) rfl))) (jss_cons (js_asgF hC (by decide) (ps_set (i := 4) sc__law_behind.nd rfl (Or.inl rfl) (j_call G__law_letter hr (by decide) (jar_mt (pv 0) (jar_bw (j_len T.b_len (je_var (pv 1))) jar_nil)) rfl))) (jss_cons (js_asgF hC (by decide) (ps_set (i := 5) sc__law_behind.nd rfl (Or.inl rfl) (j_ix (je_lst (ja_cons (je_tup (ja_cons (je_var (pv 3)) ja_nil)) (ja_cons (je_tup (ja_cons (je_var (pv 3)) (ja_cons (je_var (pv 4)) ja_nil))) (ja_cons (je_tup (ja_cons (je_var (pv 3)) (ja_cons (je_var (pv 4)) (ja_cons (je_un un_neg s_neg (je_var (pv 3))) (ja_cons (je_un un_neg s_neg (je_var (pv 4))) ja_nil))))) ja_nil)))) (j_call G__law_take hr (by decide) (jar_mt (pv 0) (jar_bw je_int jar_nil)) rfl)))) (jss_cons (js_asgF hC (by decide) (ps_set (i := 6) sc__law_behind.nd rfl (Or.inl rfl) (j_call G__law_put hr (by decide) (jar_bw (je_var (pv 1)) (jar_bw (je_var (pv 2)) (jar_bw (je_op (op_add.or (op_cat.or (op_catZ.or op_cat0))) s_add (j_ix (je_var (pv 1)) (je_var (pv 2))) (je_var (pv 5))) jar_nil))) rfl))) (jss_one (js_ret (j_call G__law_put hr (by decide) (jar_bw (je_var (pv 6)) (jar_bw (je_op (op_add.or (op_cat.or (op_catZ.or op_cat0))) s_add (je_var (pv 2)) je_int) (jar_bw (je_op (op_add.or (op_cat.or (op_catZ.or op_cat0))) s_add (j_call G__law_against hr (by decide) (jar_bw (je_var (pv 5)) jar_nil) rfl) (j_ix (je_var (pv 1)) (je_op (op_add.or (op_cat.or (op_catZ.or op_cat0))) s_add (je_var (pv 2)) je_int))) jar_nil))) rfl))))))))
theorem sc__law_spoilt : FnScope ["purse", "row", "strands", "at", "away", "letter", "by", "entry", "rows", "turn", "one"] ["purse", "row"] (defScope s__law_spoilt) := ⟨rfl, rfl, rfl, by decide +kernel, rfl, by decide +kernel, by decide +kernel⟩
theorem d__law_spoilt {fa : Addr} {fd : FuncData} (Fu : Fun K "_law_spoilt" "_law_spoilt" s__law_spoilt fa fd) (T : Txt mg) (T2 : Exs K mg) (G__law_take : Cal P w K mg base "_law_take" 1 ["purse", "size"] [.mt, .bw] f__law_take) (G__law_letter : Cal P w K mg base "_law_letter" 2 ["purse", "size"] [.mt, .bw] f__law_letter) (G__law_reduced : Cal P w K mg base "_law_reduced" 1 ["letters"] [.bw] f__law_reduced) (G__law_put : Cal P w K mg base "_law_put" 2 ["row", "at", "entry"] [.bw, .bw, .bw] f__law_put) (G__law_against : Cal P w K mg base "_law_against" 1 ["word"] [.bw] f__law_against) (G__law_conjugated : Cal P w K mg base "_law_conjugated" 2 ["entry", "by"] [.bw, .bw] f__law_conjugated) (G__law_round : Cal P w K mg base "_law_round" 1 ["row"] [.bw] f__law_round) (G__law_behind : Cal P w K mg base "_law_behind" 3 ["purse", "row"] [.mt, .bw] f__law_behind) : FnOk P w K mg base CX0 4 fa fd ["purse", "row"] (spJ K [.mt, .bw] f__law_spoilt) :=
  fnJ (k := 3) (n := 9) (f := b__law_spoilt) Fu sc__law_spoilt rfl rfl fun cdv A outer s H E C hr hC hL hW =>
    (jss_cons (js_asgF hC (by decide) (ps_set (i := 2) sc__law_spoilt.nd rfl (Or.inr rfl) (j_len T.b_len (je_var (pv 1))))) (jss_cons (js_asgF hC (by decide) (ps_set (i := 3) sc__law_spoilt.nd rfl (Or.inl rfl) (j_call G__law_take hr (by decide) (jar_mt (pv 0) (jar_bw (je_var (pv 2)) jar_nil)) rfl))) (jss_cons (js_asgF hC (by decide) (ps_set (i := 4) sc__law_spoilt.nd rfl (Or.inl rfl) (je_op op_modN s_mod (j_int T.b_int (je_op (op_add.or (op_cat.or (op_catZ.or op_cat0))) s_add (je_op (op_add.or (op_cat.or (op_catZ.or op_cat0))) s_add (je_var (pv 3)) je_int) (j_call G__law_take hr (by decide) (jar_mt (pv 0) (jar_bw (j_max T.b_max je_int (je_op op_sub s_sub (je_var (pv 2)) je_int)) jar_nil)) rfl))) (je_var (pv 2))))) (jss_cons (js_asgF hC (by decide) (ps_set (i := 5) sc__law_spoilt.nd rfl (Or.inl rfl) (j_call G__law_letter hr (by decide) (jar_mt (pv 0) (jar_bw (je_var (pv 2)) jar_nil)) rfl))) (jss_cons (js_asgF hC (by decide) (ps_set (i := 6) sc__law_spoilt.nd rfl (Or.inr rfl) (j_call G__law_reduced hr (by decide) (jar_bw (je_lc hC (by decide) nn_nm (pe_lc (own := [("turn", 9)]) rfl sc__law_spoilt.nd (ji_r1 (pi_range1 rfl T.b_range (pa_cons (je_op (op_add.or (op_cat.or (op_catZ.or op_cat0))) s_add je_int (j_call G__law_take hr (by decide) (jar_mt (pv 0) (jar_bw je_int jar_nil)) rfl)) pa_nil))) (blkOk_by (N := ["purse", "row", "strands", "at", "away", "letter", "by", "entry", "rows", "turn", "one"]) (sc := defScope s__law_spoilt) (by decide +kernel)) (fun _ _ _ _ _ => And.left (jgx [9] (jg_nm hC (by decide) (by decide) (pg_name (i := 9) sc__law_spoilt.nd rfl (Or.inl rfl))))) (fun _ _ _ _ _ => jts_nil) (fun _ _ _ _ _ => (j_call G__law_letter hr (by decide) (jar_mt (pv 0) (jar_bw (je_var (pv 2)) jar_nil)) rfl)))) jar_nil) rfl))) (jss_cons (js_asgF hC (by decide) (ps_set (i := 7) sc__law_spoilt.nd rfl (Or.inl rfl) (j_ix (je_var (pv 1)) (je_var (pv 3))))) (jss_cons (js_asg hC (by decide) (ps_set (i := 8) sc__law_spoilt.nd rfl (Or.inl rfl) (je_lst (ja_cons (j_call G__law_put hr (by decide) (jar_bw (je_var (pv 1)) (jar_bw (je_var (pv 3)) (jar_bw (je_op (op_add.or (op_cat.or (op_catZ.or op_cat0))) s_add (je_var (pv 7)) (je_tup (ja_cons (je_var (pv 5)) ja_nil))) jar_nil))) rfl) (ja_cons (j_call G__law_put hr (by decide) (jar_bw (j_call G__law_put hr (by decide) (jar_bw (je_var (pv 1)) (jar_bw (je_var (pv 3)) (jar_bw (j_ix (je_var (pv 1)) (je_var (pv 4))) jar_nil))) rfl) (jar_bw (je_var (pv 4)) (jar_bw (je_var (pv 7)) jar_nil))) rfl) ja_nil))))) (jss_cons (js_app (ps_expr (pe_bm PySem.F.plainAttrs_list PySem.F.slot_list_append PySem.F.type_list_append mt_append (pv 8) (pa_cons (j_call G__law_put hr (by decide) (jar_bw (je_var (pv 1)) (jar_bw (je_var (pv 3)) (jar_bw (j_call G__law_against hr (by decide) (jar_bw (je_var (pv 7)) jar_nil) rfl) jar_nil))) rfl) pa_nil)))) (jss_cons (js_app (ps_expr (pe_bm PySem.F.plainAttrs_list PySem.F.slot_list_append PySem.F.type_list_append mt_append (pv 8) (pa_cons (j_call G__law_put hr (by decide) (jar_bw (je_var (pv 1)) (jar_bw (je_var (pv 3)) (jar_bw (j_call G__law_conjugated hr (by decide) (jar_bw (je_var (pv 7)) (jar_bw (je_tup (ja_cons (je_var (pv 5)) ja_nil)) jar_nil)) rfl) jar_nil))) rfl) pa_nil)))) (jss_cons (js_app (ps_expr (pe_bm PySem.F.plainAttrs_list PySem.F.slot_list_append PySem.F.type_list_append mt_append (pv 8) (pa_cons (je_lc hC (by decide) nn_nm (pe_lc (own := [("one", 10)]) rfl sc__law_spoilt.nd (ji_seq (je_var (pv 1))) (blkOk_by (N := ["purse", "row", "strands", "at", "away", "letter", "by", "entry", "rows", "turn", "one"]) (sc := defScope s__law_spoilt) (by decide +kernel)) (fun _ _ _ _ _ => And.left (jgx [10] (jg_nm hC (by decide) (by decide) (pg_name (i := 10) sc__law_spoilt.nd rfl (Or.inl rfl))))) (fun _ _ _ _ _ => jts_nil) (fun _ _ _ _ _ => (j_call G__law_conjugated hr (by decide) (jar_bw (je_var (pv 10)) (jar_bw (je_var (pv 6)) jar_nil)) rfl)))) pa_nil)))) (jss_cons (js_app (ps_expr (pe_bm PySem.F.plainAttrs_list PySem.F.slot_list_append PySem.F.type_list_append mt_append (pv 8) (pa_cons (je_op (op_add.or (op_cat.or (op_catZ.or op_cat0))) s_add (j_sl (je_var (pv 1)) (jo_so je_int) jo_no) (j_sl (je_var (pv 1)) jo_no (jo_so je_int))) pa_nil)))) (jss_cons (js_app (ps_expr (pe_bm PySem.F.plainAttrs_list PySem.F.slot_list_append PySem.F.type_list_append mt_append (pv 8) (pa_cons (j_call G__law_round hr (by decide) (jar_bw (je_var (pv 1)) jar_nil) rfl) pa_nil)))) (jss_cons (js_app (ps_expr (pe_bm PySem.F.plainAttrs_list PySem.F.slot_list_append PySem.F.type_list_append mt_append (pv 8) (pa_cons (j_call G__law_put hr (by decide) (jar_bw (je_var (pv 1)) (jar_bw (je_var (pv 3)) (jar_bw (j_ix (je_var (pv 1)) (je_var (pv 4))) jar_nil))) rfl) pa_nil)))) (jss_cons (js_app (ps_expr (pe_bm PySem.F.plainAttrs_list PySem.F.slot_list_append PySem.F.type_list_append mt_append (pv 8) (pa_cons (j_call G__law_put hr (by decide) (jar_bw (je_var (pv 1)) (jar_bw (je_var (pv 3)) (jar_bw (je_op (op_add.or (op_cat.or (op_catZ.or op_cat0))) s_add (je_op (op_add.or (op_cat.or (op_catZ.or op_cat0))) s_add (je_var (pv 7)) (je_var (pv 7))) (je_var (pv 7))) jar_nil))) rfl) pa_nil)))) (jss_cons (js_app (ps_expr (pe_bm PySem.F.plainAttrs_list PySem.F.slot_list_append PySem.F.type_list_append mt_append (pv 8) (pa_cons (j_call G__law_put hr (by decide) (jar_bw (je_var (pv 1)) (jar_bw (je_var (pv 3)) (jar_bw (je_tup ja_nil) jar_nil))) rfl) pa_nil)))) (jss_cons (js_if (jt_cmp op_ge s_ge (je_var (pv 2)) je_int (nomark _)) (jss_cons (js_app (ps_expr (pe_bm PySem.F.plainAttrs_list PySem.F.slot_list_append PySem.F.type_list_append mt_append (pv 8) (pa_cons (j_call G__law_behind hr (by decide) (jar_mt (pv 0) (jar_bw (je_var (pv 1)) jar_nil)) rfl) pa_nil)))) (jss_one (js_app (ps_expr (pe_bm PySem.F.plainAttrs_list PySem.F.slot_list_append PySem.F.type_list_append mt_append (pv 8) (pa_cons (j_call G__law_behind hr (by decide) (jar_mt (pv 0) (jar_bw (je_var (pv 1)) jar_nil)) rfl) pa_nil)))))) jss_nil) (jss_one (js_ret (je_var (pv 8))))))))))))))))))))
theorem sc__law_is_conjugate : FnScope ["entry", "middle", "k"] ["entry"] (defScope s__law_is_conjugate) := ⟨rfl, rfl, rfl, by decide +kernel, rfl, by decide +kernel, by decide +kernel⟩
theorem d__law_is_conjugate {fa : Addr} {fd : FuncData} (Fu : Fun K "_law_is_conjugate" "_law_is_conjugate" s__law_is_conjugate fa fd) (T : Txt mg) (T2 : Exs K mg) : FnOk P w K mg base CX0 1 fa fd ["entry"] (spJ K [.bw] f__law_is_conjugate) :=
  fnJ (k := 0) (n := 2) (f := b__law_is_conjugate) Fu sc__law_is_conjugate rfl rfl fun cdv A outer s H E C hr hC hL hW =>
    (jss_cons (js_asgF hC (by decide) (ps_set (i := 1) sc__law_is_conjugate.nd rfl (Or.inl rfl) (je_op op_fdivN s_fdiv (j_len T.b_len (je_var (pv 0))) je_int))) (jss_cons (js_if (jt_w (jw_or (jt_cmp (op_neD hr.units) s_ne (j_len T.b_len (je_var (pv 0))) (je_op (op_add.or (op_cat.or (op_catZ.or op_cat0))) s_add (je_op (op_mul.or (op_mulW.or (op_rep.or op_repZ))) s_mul je_int (je_var (pv 1))) je_int) (nomark _)) (jw_or1 (jt_cmp op_lt s_lt (j_ix (je_var (pv 0)) (je_var (pv 1))) je_int (nomark _))))) (jss_one (js_ret je_bl)) jss_nil) (jss_cons (js_for (sl := [2]) PassesOwn.never rfl (ji_r1 (pi_range1 rfl T.b_range (pa_cons (je_var (pv 1)) pa_nil))) (jg_nm hC (by decide) (by decide) (pg_name (i := 2) sc__law_is_conjugate.nd rfl (Or.inl rfl))) (jss_one (js_if (jt_cmp (op_neD hr.units) s_ne (j_ix (je_var (pv 0)) (je_var (pv 2))) (je_un un_neg s_neg (j_ix (je_var (pv 0)) (je_op op_sub s_sub (je_op op_sub s_sub (j_len T.b_len (je_var (pv 0))) je_int) (je_var (pv 2))))) (nomark _)) (jss_one (js_ret je_bl)) jss_nil))) (jss_one (js_ret je_bl)))))
theorem sc__law_is_due : FnScope ["row", "letters", "entry", "k"] ["row"] (defScope s__law_is_due) := ⟨rfl, rfl, rfl, by decide +kernel, rfl, by decide +kernel, by decide +kernel⟩
theorem d__law_is_due {fa : Addr} {fd : FuncData} (Fu : Fun K "_law_is_due" "_law_is_due" s__law_is_due fa fd) (T : Txt mg) (T2 : Exs K mg) (G__law_is_conjugate : Cal P w K mg base "_law_is_conjugate" 1 ["entry"] [.bw] f__law_is_conjugate) (G__law_reduced : Cal P w K mg base "_law_reduced" 1 ["letters"] [.bw] f__law_reduced) : FnOk P w K mg base CX0 2 fa fd ["row"] (spJ K [.bw] f__law_is_due) :=
  fnJ (k := 1) (n := 3) (f := b__law_is_due) Fu sc__law_is_due rfl rfl fun cdv A outer s H E C hr hC hL hW =>
    (jss_cons (js_asg hC (by decide) (ps_set (i := 1) sc__law_is_due.nd rfl (Or.inl rfl) (je_lst ja_nil))) (jss_cons (js_for (sl := [2]) PassesOwn.never rfl (ji_seq (je_var (pv 0))) (jg_nm hC (by decide) (by decide) (pg_name (i := 2) sc__law_is_due.nd rfl (Or.inl rfl))) (jss_cons (js_if (jt_not (jt_tru (j_call G__law_is_conjugate hr (by decide) (jar_bw (je_var (pv 2)) jar_nil) rfl))) (jss_one (js_ret je_bl)) jss_nil) (jss_one (js_extA (ps_expr (pe_bm PySem.F.plainAttrs_list PySem.F.slot_list_extend PySem.F.type_list_extend mt_extend (pv 1) (pa_cons (j_list T.b_list (je_var (pv 2))) pa_nil))) (ps_expr (pe_bm PySem.F.plainAttrs_list PySem.F.slot_list_extend PySem.F.type_list_extend mt_extT (pv 1) (pa_cons (j_list T.b_list (je_var (pv 2))) pa_nil))))))) (jss_one (js_ret (je_cmp (op_eqD hr.units) s_eq (j_call G__law_reduced hr (by decide) (jar_bw (je_var (pv 1)) jar_nil) rfl) (j_tuple T.b_tuple (je_lc hC (by decide) nn_nm (pe_lc (own := [("k", 3)]) rfl sc__law_is_due.nd (ji_r1 (pi_range1 rfl T.b_range (pa_cons (j_len T.b_len (je_var (pv 0))) pa_nil))) (blkOk_by (N := ["row", "letters", "entry", "k"]) (sc := defScope s__law_is_due) (by decide +kernel)) (fun _ _ _ _ _ => And.left (jgx [3] (jg_nm hC (by decide) (by decide) (pg_name (i := 3) sc__law_is_due.nd rfl (Or.inl rfl))))) (fun _ _ _ _ _ => jts_nil) (fun _ _ _ _ _ => (je_op (op_add.or (op_cat.or (op_catZ.or op_cat0))) s_add (je_var (pv 3)) je_int))))) (nomark _))))))
theorem sc_free_word : FnScope ["letters", "reduced", "letter"] ["letters"] (defScope s_free_word) := ⟨rfl, rfl, rfl, by decide +kernel, rfl, by decide +kernel, by decide +kernel⟩
theorem d_free_word {fa : Addr} {fd : FuncData} (Fu : Fun K "free_word" "free_word" s_free_word fa fd) (T : Txt mg) (T2 : Exs K mg) : FnOk P w K mg base CX0 1 fa fd ["letters"] (spJ K [.bw] f_free_word) :=
  fnJ (k := 0) (n := 2) (f := b_free_word) Fu sc_free_word rfl rfl fun cdv A outer s H E C hr hC hL hW =>
    (jss_cons (js_asg hC (by decide) (ps_set (i := 1) sc_free_word.nd rfl (Or.inl rfl) (je_lst ja_nil))) (jss_cons (js_for (sl := [2]) PassesOwn.never rfl (ji_seq (je_var (pv 0))) (jg_nm hC (by decide) (by decide) (pg_name (i := 2) sc_free_word.nd rfl (Or.inl rfl))) (jss_one (js_if (jt_w (jw_and (jt_tru (je_var (pv 1))) (jw_and1 (jt_cmp (op_eqD hr.units) s_eq (j_ix (je_var (pv 1)) (je_un un_neg s_neg je_int)) (je_un un_neg s_neg (je_var (pv 2))) (nomark _))))) (jss_one (js_drop (ps_expr (je_pop (pe_bm0 PySem.F.plainAttrs_list PySem.F.slot_list_pop PySem.F.type_list_pop mt_pop (pv 1)))))) (jss_one (js_app (ps_expr (pe_bm PySem.F.plainAttrs_list PySem.F.slot_list_append PySem.F.type_list_append mt_append (pv 1) (pa_cons (je_var (pv 2)) pa_nil)))))))) (jss_one (js_ret (j_tuple T.b_tuple (je_var (pv 1)))))))
theorem sc_free_product : FnScope ["words", "letters", "word"] ["words"] (defScope s_free_product) := ⟨rfl, rfl, rfl, by decide +kernel, rfl, by decide +kernel, by decide +kernel⟩
theorem d_free_product {fa : Addr} {fd : FuncData} (Fu : Fun K "free_product" "free_product" s_free_product fa fd) (T : Txt mg) (T2 : Exs K mg) (G_free_word : Cal P w K mg base "free_word" 1 ["letters"] [.bw] f_free_word) : FnR P w K mg base CX0 2 fa (spV K f_free_product) :=
  fnJS (k := 1) (n := 2) (f := b_free_product) Fu sc_free_product rfl (fun _ _ _ _ _ _ us => match us with | [] => rfl | _ :: _ => rfl) fun cdv A outer s H E C hr hC =>
    (jss_cons (js_asg hC (by decide) (ps_set (i := 1) sc_free_product.nd rfl (Or.inl rfl) (je_lst ja_nil))) (jss_cons (js_for (sl := [2]) PassesOwn.never rfl (ji_seq (je_var (pv 0))) (jg_nm hC (by decide) (by decide) (pg_name (i := 2) sc_free_product.nd rfl (Or.inl rfl))) (jss_one (js_extA (ps_expr (pe_bm PySem.F.plainAttrs_list PySem.F.slot_list_extend PySem.F.type_list_extend mt_extend (pv 1) (pa_cons (je_var (pv 2)) pa_nil))) (ps_expr (pe_bm PySem.F.plainAttrs_list PySem.F.slot_list_extend PySem.F.type_list_extend mt_extT (pv 1) (pa_cons (je_var (pv 2)) pa_nil)))))) (jss_one (js_ret (j_call G_free_word hr (by decide) (jar_bw (je_var (pv 1)) jar_nil) rfl)))))
theorem sc_free_inverse : FnScope ["word", "letter"] ["word"] (defScope s_free_inverse) := ⟨rfl, rfl, rfl, by decide +kernel, rfl, by decide +kernel, by decide +kernel⟩
theorem d_free_inverse {fa : Addr} {fd : FuncData} (Fu : Fun K "free_inverse" "free_inverse" s_free_inverse fa fd) (T : Txt mg) (T2 : Exs K mg) : FnOk P w K mg base CX0 1 fa fd ["word"] (spJ K [.bw] f_free_inverse) :=
  fnJ (k := 0) (n := 1) (f := b_free_inverse) Fu sc_free_inverse rfl rfl fun cdv A outer s H E C hr hC hL hW =>
    (jss_one (js_ret (j_tuple T.b_tuple (je_lc hC (by decide) nn_nm (pe_lc (own := [("letter", 1)]) rfl sc_free_inverse.nd (ji_seq (j_rev (je_var (pv 0)))) (blkOk_by (N := ["word", "letter"]) (sc := defScope s_free_inverse) (by decide +kernel)) (fun _ _ _ _ _ => And.left (jgx [1] (jg_nm hC (by decide) (by decide) (pg_name (i := 1) sc_free_inverse.nd rfl (Or.inl rfl))))) (fun _ _ _ _ _ => jts_nil) (fun _ _ _ _ _ => (je_un un_neg s_neg (je_var (pv 1)))))))))
theorem sc_conjugate_parts : FnScope ["word", "half", "before", "centre", "after"] ["word"] (defScope s_conjugate_parts) := ⟨rfl, rfl, rfl, by decide +kernel, rfl, by decide +kernel, by decide +kernel⟩
theorem d_conjugate_parts {fa : Addr} {fd : FuncData} (Fu : Fun K "conjugate_parts" "conjugate_parts" s_conjugate_parts fa fd) (T : Txt mg) (T2 : Exs K mg) (G_free_inverse : Cal P w K mg base "free_inverse" 1 ["word"] [.bw] f_free_inverse) : FnOk P w K mg base CX0 2 fa fd ["word"] (spJ K [.bw] f_conjugate_parts) :=
  fnJ (k := 1) (n := 4) (f := b_conjugate_parts) Fu sc_conjugate_parts rfl rfl fun cdv A outer s H E C hr hC hL hW =>
    (jss_cons (js_if (jt_cmp (op_eqD hr.units) s_eq (je_op op_modN s_mod (j_len T.b_len (je_var (pv 0))) je_int) je_int (nomark _)) (jss_one (js_ret je_non)) jss_nil) (jss_cons (js_asgF hC (by decide) (ps_set (i := 1) sc_conjugate_parts.nd rfl (Or.inl rfl) (je_op op_fdivN s_fdiv (j_len T.b_len (je_var (pv 0))) je_int))) (jss_cons (js_par3 hC (by decide) (by decide) (by decide) (ps_par3 (i := 2) (j := 3) (k := 4) rfl sc_conjugate_parts.nd rfl rfl rfl (by decide) (by decide) (by decide) rfl rfl rfl (And.left (ja_cons (j_sl (je_var (pv 0)) jo_no (jo_so (je_var (pv 1)))) (ja_cons (j_ix (je_var (pv 0)) (je_var (pv 1))) (ja_cons (j_sl (je_var (pv 0)) (jo_so (je_op (op_add.or (op_cat.or (op_catZ.or op_cat0))) s_add (je_var (pv 1)) je_int)) jo_no) ja_nil)))) rfl)) (jss_cons (js_if (jt_w (jw_or (jt_cmp op_lt s_lt (je_var (pv 3)) je_int (nomark _)) (jw_or1 (jt_cmp (op_neD hr.units) s_ne (je_var (pv 4)) (j_call G_free_inverse hr (by decide) (jar_bw (je_var (pv 2)) jar_nil) rfl) (nomark _))))) (jss_one (js_ret je_non)) jss_nil) (jss_one (js_ret (je_tup (ja_cons (je_var (pv 2)) (ja_cons (je_var (pv 3)) ja_nil)))))))))
theorem sc_is_braid_row : FnScope ["strands", "row", "entry"] ["strands", "row"] (defScope s_is_braid_row) := ⟨rfl, rfl, rfl, by decide +kernel, rfl, by decide +kernel, by decide +kernel⟩
theorem d_is_braid_row {fa : Addr} {fd : FuncData} (Fu : Fun K "is_braid_row" "is_braid_row" s_is_braid_row fa fd) (T : Txt mg) (T2 : Exs K mg) (G_conjugate_parts : Cal P w K mg base "conjugate_parts" 2 ["word"] [.bw] f_conjugate_parts) (G_free_product : CalV P w K mg base "free_product" 2 f_free_product) : FnOk P w K mg base CX0 3 fa fd ["strands", "row"] (spJ K [.bw, .bw] f_is_braid_row) :=
  fnJ (k := 2) (n := 1) (f := b_is_braid_row) Fu sc_is_braid_row rfl rfl fun cdv A outer s H E C hr hC hL hW =>
    (jss_cons (js_for (sl := [2]) PassesOwn.never rfl (ji_seq (je_var (pv 1))) (jg_nm hC (by decide) (by decide) (pg_name (i := 2) sc_is_braid_row.nd rfl (Or.inl rfl))) (jss_one (js_if (jt_cmp op_isN s_isN (j_call G_conjugate_parts hr (by decide) (jar_bw (je_var (pv 2)) jar_nil) rfl) je_non (nomark _)) (jss_one (js_ret je_bl)) jss_nil))) (jss_one (js_ret (je_cmp (op_eqD hr.units) s_eq (j_callVS G_free_product hr (by decide) (je_var (pv 1))) (j_tupleR2 T.b_tuple T.b_range je_int (je_op (op_add.or (op_cat.or (op_catZ.or op_cat0))) s_add (je_var (pv 0)) je_int)) (nomark _)))))
theorem sc_conjugated_free : FnScope ["word", "by"] ["word", "by"] (defScope s_conjugated_free) := ⟨rfl, rfl, rfl, by decide +kernel, rfl, by decide +kernel, by decide +kernel⟩
theorem d_conjugated_free {fa : Addr} {fd : FuncData} (Fu : Fun K "conjugated_free" "conjugated_free" s_conjugated_free fa fd) (T : Txt mg) (T2 : Exs K mg) (G_free_product : CalV P w K mg base "free_product" 2 f_free_product) (G_free_inverse : Cal P w K mg base "free_inverse" 1 ["word"] [.bw] f_free_inverse) : FnOk P w K mg base CX0 3 fa fd ["word", "by"] (spJ K [.fz, .fz] f_conjugated_free) :=
  fnJ (k := 2) (n := 0) (f := b_conjugated_free) Fu sc_conjugated_free rfl rfl fun cdv A outer s H E C hr hC hL hW =>
    (jss_one (js_ret (j_callV G_free_product hr (by decide) (ja_cons (je_var (pv 1)) (ja_cons (je_var (pv 0)) (ja_cons (j_call G_free_inverse hr (by decide) (jar_bw (je_var (pv 1)) jar_nil) rfl) ja_nil))))))
theorem sc__over : FnScope ["first", "second"] ["first", "second"] (defScope s__over) := ⟨rfl, rfl, rfl, by decide +kernel, rfl, by decide +kernel, by decide +kernel⟩
theorem d__over {fa : Addr} {fd : FuncData} (Fu : Fun K "_over" "_over" s__over fa fd) (T : Txt mg) (T2 : Exs K mg) (G_conjugated_free : Cal P w K mg base "conjugated_free" 3 ["word", "by"] [.fz, .fz] f_conjugated_free) : FnOk P w K mg base CX0 4 fa fd ["first", "second"] (spJ K [.fz, .fz] f__over) :=
  fnJ (k := 3) (n := 0) (f := b__over) Fu sc__over rfl rfl fun cdv A outer s H E C hr hC hL hW =>
    (jss_one (js_ret (j_call G_conjugated_free hr (by decide) (jar_fz (je_var (pv 1)) (jar_fz (je_var (pv 0)) jar_nil)) rfl)))
theorem sc__under : FnScope ["first", "second"] ["first", "second"] (defScope s__under) := ⟨rfl, rfl, rfl, by decide +kernel, rfl, by decide +kernel, by decide +kernel⟩
theorem d__under {fa : Addr} {fd : FuncData} (Fu : Fun K "_under" "_under" s__under fa fd) (T : Txt mg) (T2 : Exs K mg) (G_conjugated_free : Cal P w K mg base "conjugated_free" 3 ["word", "by"] [.fz, .fz] f_conjugated_free) (G_free_inverse : Cal P w K mg base "free_inverse" 1 ["word"] [.bw] f_free_inverse) : FnOk P w K mg base CX0 4 fa fd ["first", "second"] (spJ K [.fz, .bw] f__under) :=
  fnJ (k := 3) (n := 0) (f := b__under) Fu sc__under rfl rfl fun cdv A outer s H E C hr hC hL hW =>
    (jss_one (js_ret (j_call G_conjugated_free hr (by decide) (jar_fz (je_var (pv 0)) (jar_fz (j_call G_free_inverse hr (by decide) (jar_bw (je_var (pv 1)) jar_nil) rfl) jar_nil)) rfl)))
theorem sc__shortening_letter : FnScope ["row", "best_letter", "best_gain", "i", "first", "second", "gain"] ["row"] (defScope s__shortening_letter) := ⟨rfl, rfl, rfl, by decide +kernel, rfl, by decide +kernel, by decide +kernel⟩
theorem d__shortening_letter {fa : Addr} {fd : FuncData} (Fu : Fun K "_shortening_letter" "_shortening_letter" s__shortening_letter fa fd) (T : Txt mg) (T2 : Exs K mg) (G__over : Cal P w K mg base "_over" 4 ["first", "second"] [.fz, .fz] f__over) (G__under : Cal P w K mg base "_under" 4 ["first", "second"] [.fz, .bw] f__under) : FnOk P w K mg base CX0 5 fa fd ["row"] (spJ K [.bw] f__shortening_letter) :=
  fnJ (k := 4) (n := 6) (f := b__shortening_letter) Fu sc__shortening_letter rfl rfl fun cdv A outer s H E C hr hC hL hW =>
    (jss_cons (js_asg hC (by decide) (ps_set (i := 1) sc__shortening_letter.nd rfl (Or.inl rfl) je_int)) (jss_cons (js_asgF hC (by decide) (ps_set (i := 2) sc__shortening_letter.nd rfl (Or.inl rfl) je_int)) (jss_cons (js_for (sl := [3]) PassesOwn.never rfl (ji_r2 (pi_range2 rfl T.b_range (pa_cons je_int (pa_cons (j_len T.b_len (je_var (pv 0))) pa_nil)))) (jg_nm hC (by decide) (by decide) (pg_name (i := 3) sc__shortening_letter.nd rfl (Or.inl rfl))) (jss_cons (js_par2 hC (by decide) (by decide) (ps_par (i := 4) (j := 5) rfl sc__shortening_letter.nd rfl rfl (by decide) rfl rfl (And.left (ja_cons (j_ix (je_var (pv 0)) (je_op op_sub s_sub (je_var (pv 3)) je_int)) (ja_cons (j_ix (je_var (pv 0)) (je_var (pv 3))) ja_nil))) rfl)) (jss_cons (js_asgF hC (by decide) (ps_set (i := 6) sc__shortening_letter.nd rfl (Or.inl rfl) (je_op op_sub s_sub (j_len T.b_len (je_var (pv 5))) (j_len T.b_len (j_call G__over hr (by decide) (jar_fz (je_var (pv 4)) (jar_fz (je_var (pv 5)) jar_nil)) rfl))))) (jss_cons (js_if (jt_cmp op_gt s_gt (je_var (pv 6)) (je_var (pv 2)) (nomark _)) (jss_one (js_par2 hC (by decide) (by decide) (ps_par (i := 1) (j := 2) rfl sc__shortening_letter.nd rfl rfl (by decide) rfl rfl (And.left (ja_cons (je_var (pv 3)) (ja_cons (je_var (pv 6)) ja_nil))) rfl))) jss_nil) (jss_cons (js_asgF hC (by decide) (ps_set (i := 6) sc__shortening_letter.nd rfl (Or.inl rfl) (je_op op_sub s_sub (j_len T.b_len (je_var (pv 4))) (j_len T.b_len (j_call G__under hr (by decide) (jar_fz (je_var (pv 4)) (jar_bw (je_var (pv 5)) jar_nil)) rfl))))) (jss_one (js_if (jt_cmp op_gt s_gt (je_var (pv 6)) (je_var (pv 2)) (nomark _)) (jss_one (js_par2 hC (by decide) (by decide) (ps_par (i := 1) (j := 2) rfl sc__shortening_letter.nd rfl rfl (by decide) rfl rfl (And.left (ja_cons (je_un un_neg s_neg (je_var (pv 3))) (ja_cons (je_var (pv 6)) ja_nil))) rfl))) jss_nil))))))) (jss_one (js_ret (je_var (pv 1)))))))
theorem sc_inverse_word : FnScope ["word", "letter"] ["word"] (defScope s_inverse_word) := ⟨rfl, rfl, rfl, by decide +kernel, rfl, by decide +kernel, by decide +kernel⟩
theorem d_inverse_word {fa : Addr} {fd : FuncData} (Fu : Fun K "inverse_word" "inverse_word" s_inverse_word fa fd) (T : Txt mg) (T2 : Exs K mg) : FnOk P w K mg base CX0 1 fa fd ["word"] (spJ K [.bw] f_inverse_word) :=
  fnJ (k := 0) (n := 1) (f := b_inverse_word) Fu sc_inverse_word rfl rfl fun cdv A outer s H E C hr hC hL hW =>
    (jss_one (js_ret (je_lc hC (by decide) nn_nm (pe_lc (own := [("letter", 1)]) rfl sc_inverse_word.nd (ji_seq (j_rev (je_var (pv 0)))) (blkOk_by (N := ["word", "letter"]) (sc := defScope s_inverse_word) (by decide +kernel)) (fun _ _ _ _ _ => And.left (jgx [1] (jg_nm hC (by decide) (by decide) (pg_name (i := 1) sc_inverse_word.nd rfl (Or.inl rfl))))) (fun _ _ _ _ _ => jts_nil) (fun _ _ _ _ _ => (je_un un_neg s_neg (je_var (pv 1))))))))
theorem sc_act : FnScope ["row", "word", "entries", "letter", "i", "first", "second"] ["row", "word"] (defScope s_act) := ⟨rfl, rfl, rfl, by decide +kernel, rfl, by decide +kernel, by decide +kernel⟩
theorem d_act {fa : Addr} {fd : FuncData} (Fu : Fun K "act" "act" s_act fa fd) (T : Txt mg) (T2 : Exs K mg) (G__over : Cal P w K mg base "_over" 4 ["first", "second"] [.fz, .fz] f__over) (G__under : Cal P w K mg base "_under" 4 ["first", "second"] [.fz, .bw] f__under) : FnOk P w K mg base CX0 5 fa fd ["row", "word"] (spJ K [.bw, .bw] f_act) :=
  fnJ (k := 4) (n := 5) (f := b_act) Fu sc_act rfl rfl fun cdv A outer s H E C hr hC hL hW =>
    (jss_cons (js_asg hC (by decide) (ps_set (i := 2) sc_act.nd rfl (Or.inl rfl) (j_list T.b_list (je_var (pv 0))))) (jss_cons (js_for (sl := [3]) PassesOwn.never rfl (ji_seq (je_var (pv 1))) (jg_nm hC (by decide) (by decide) (pg_name (i := 3) sc_act.nd rfl (Or.inl rfl))) (jss_cons (js_asgF hC (by decide) (ps_set (i := 4) sc_act.nd rfl (Or.inl rfl) (j_abs T.b_abs (je_var (pv 3))))) (jss_cons (js_par2 hC (by decide) (by decide) (ps_par (i := 5) (j := 6) rfl sc_act.nd rfl rfl (by decide) rfl rfl (And.left (ja_cons (j_ix (je_var (pv 2)) (je_op op_sub s_sub (je_var (pv 4)) je_int)) (ja_cons (j_ix (je_var (pv 2)) (je_var (pv 4))) ja_nil))) rfl)) (jss_one (js_if (jt_cmp op_gt s_gt (je_var (pv 3)) je_int (nomark _)) (jss_cons (js_set (ps_asg (j_call G__over hr (by decide) (jar_fz (je_var (pv 5)) (jar_fz (je_var (pv 6)) jar_nil)) rfl) (pg_sub (pv 2) (je_op op_sub s_sub (je_var (pv 4)) je_int) set_list))) (jss_one (js_set (ps_asg (je_var (pv 5)) (pg_sub (pv 2) (je_var (pv 4)) set_list))))) (jss_cons (js_set (ps_asg (je_var (pv 6)) (pg_sub (pv 2) (je_op op_sub s_sub (je_var (pv 4)) je_int) set_list))) (jss_one (js_set (ps_asg (j_call G__under hr (by decide) (jar_fz (je_var (pv 5)) (jar_bw (je_var (pv 6)) jar_nil)) rfl) (pg_sub (pv 2) (je_var (pv 4)) set_list)))))))))) (jss_one (js_ret (j_tuple T.b_tuple (je_var (pv 2)))))))
theorem sc_braid_of : FnScope ["strands", "row", "entries", "letters", "letter"] ["strands", "row"] (defScope s_braid_of) := ⟨rfl, rfl, rfl, by decide +kernel, rfl, by decide +kernel, by decide +kernel⟩
theorem d_braid_of {fa : Addr} {fd : FuncData} (Fu : Fun K "braid_of" "braid_of" s_braid_of fa fd) (T : Txt mg) (T2 : Exs K mg) (G_is_braid_row : Cal P w K mg base "is_braid_row" 3 ["strands", "row"] [.bw, .bw] f_is_braid_row) (G__shortening_letter : Cal P w K mg base "_shortening_letter" 5 ["row"] [.bw] f__shortening_letter) (G_act : Cal P w K mg base "act" 5 ["row", "word"] [.bw, .bw] f_act) (G_inverse_word : Cal P w K mg base "inverse_word" 1 ["word"] [.bw] f_inverse_word) : FnOk P w K mg base (L2.CX P w) 6 fa fd ["strands", "row"] (spX K mg [.bw, .bw] f_braid_of) :=
  fnX (k := 5) (n := 3) (f := b_braid_of) Fu sc_braid_of rfl rfl rfl fun cdv A outer s H E C hr hC hL tk =>
    (jss_cons (js_if (jt_not (jt_tru (j_call G_is_braid_row hr (by decide) (jar_bw (je_var (pv 0)) (jar_bw (je_var (pv 1)) jar_nil)) rfl))) (jss_one (js_raiseR T2.r_NotBraidRow rfl tk hL)) jss_nil) (jss_cons (js_asgF hC (by decide) (ps_set (i := 2) sc_braid_of.nd rfl (Or.inl rfl) (j_tuple T.b_tuple (je_var (pv 1))))) (jss_cons (js_asg hC (by decide) (ps_set (i := 3) sc_braid_of.nd rfl (Or.inl rfl) (je_lst ja_nil))) (jss_cons (js_asgF hC (by decide) (ps_set (i := 4) sc_braid_of.nd rfl (Or.inl rfl) (j_call G__shortening_letter hr (by decide) (jar_bw (je_var (pv 2)) jar_nil) rfl))) (jss_cons (js_while (passes_of rfl) (jt_cmp (op_neD hr.units) s_ne (je_var (pv 4)) je_int (nomark _)) (jss_cons (js_app (ps_expr (pe_bm PySem.F.plainAttrs_list PySem.F.slot_list_append PySem.F.type_list_append mt_append (pv 3) (pa_cons (je_var (pv 4)) pa_nil)))) (jss_cons (js_asgF hC (by decide) (ps_set (i := 2) sc_braid_of.nd rfl (Or.inl rfl) (j_call G_act hr (by decide) (jar_bw (je_var (pv 2)) (jar_bw (je_lst (ja_cons (je_var (pv 4)) ja_nil)) jar_nil)) rfl))) (jss_one (js_asgF hC (by decide) (ps_set (i := 4) sc_braid_of.nd rfl (Or.inl rfl) (j_call G__shortening_letter hr (by decide) (jar_bw (je_var (pv 2)) jar_nil) rfl))))))) (jss_one (js_ret (j_call G_inverse_word hr (by decide) (jar_bw (je_var (pv 3)) jar_nil) rfl))))))))
theorem sc__law_asked : FnScope ["row", "raised", "right"] ["row"] (defScope s__law_asked) := ⟨rfl, rfl, rfl, by decide +kernel, rfl, by decide +kernel, by decide +kernel⟩
theorem d__law_asked {fa : Addr} {fd : FuncData} (Fu : Fun K "_law_asked" "_law_asked" s__law_asked fa fd) (T : Txt mg) (T2 : Exs K mg) (G_braid_of : CalX P w K mg base "braid_of" 6 ["strands", "row"] [.bw, .bw] f_braid_of) : FnOk P w K mg base CX0 7 fa fd ["row"] (spJ K [.bw] f__law_asked) :=
  fnJ (k := 6) (n := 2) (f := b__law_asked) Fu sc__law_asked rfl rfl fun cdv A outer s H E C hr hC hL hW =>
    (jss_one (js_try (i := 1) rfl rfl sc__law_asked.nd rfl rfl rfl T2.m_NotBraidRow (by rw [hW]; exact takes0) hL (by rw [hC]; decide) (fun W pn xe tk hpo => (jss_one (js_xret (jx_tup (jxa_cons (jx_lift je_str) (jxa_cons (jx_call G_braid_of hr (by decide) tk hL (jar_bw (j_len T.b_len (je_var (pv 0))) (jar_bw (j_tuple T.b_tuple (je_var (pv 0))) jar_nil)) rfl) jxa_nil)))))) (fun ec a oe D pn hD hz hfl => have hC := congrArg (List.cons 1) hC; (jss_cons (js_asgF hC (by decide) (ps_set (i := 2) sc__law_asked.nd rfl (Or.inl rfl) (je_and (j_isX rfl hD hz hfl T2.i_BraidError T.b_isinstance (pv 1)) (je_one (j_isX rfl hD hz hfl T2.i_ValueError T.b_isinstance (pv 1)))))) (jss_one (js_ret (je_tup (ja_cons je_str (ja_cons (je_and (je_var (pv 2)) (je_one (je_not (j_isX rfl hD hz hfl T2.i_NotPure T.b_isinstance (pv 1))))) ja_nil)))))))))
theorem sc__law_leads : FnScope ["word", "row", "letter", "entries"] ["word", "row"] (defScope s__law_leads) := ⟨rfl, rfl, rfl, by decide +kernel, rfl, by decide +kernel, by decide +kernel⟩
theorem d__law_leads {fa : Addr} {fd : FuncData} (Fu : Fun K "_law_leads" "_law_leads" s__law_leads fa fd) (T : Txt mg) (T2 : Exs K mg) (G__law_start : Cal P w K mg base "_law_start" 1 ["strands"] [.bw] f__law_start) (G__law_reduced : Cal P w K mg base "_law_reduced" 1 ["letters"] [.bw] f__law_reduced) (G__law_moved : Cal P w K mg base "_law_moved" 2 ["row", "letter"] [.bw, .bw] f__law_moved) : FnOk P w K mg base CX0 3 fa fd ["word", "row"] (spJ K [.bw, .bw] f__law_leads) :=
  fnJ (k := 2) (n := 2) (f := b__law_leads) Fu sc__law_leads rfl rfl fun cdv A outer s H E C hr hC hL hW =>
    (jss_cons (js_if (jt_not (jt_tru (j_isi_list T.b_isinstance T.b_list (je_var (pv 0))))) (jss_one (js_ret je_bl)) jss_nil) (jss_cons (js_for (sl := [2]) PassesOwn.never rfl (ji_seq (je_var (pv 0))) (jg_nm hC (by decide) (by decide) (pg_name (i := 2) sc__law_leads.nd rfl (Or.inl rfl))) (jss_cons (js_if (jt_w (jw_or (jt_not (jt_tru (j_isi_int T.b_isinstance T.b_int (je_var (pv 2))))) (jw_or1 (jt_tru (j_isi_bool T.b_isinstance T.b_bool (je_var (pv 2))))))) (jss_one (js_ret je_bl)) jss_nil) (jss_one (js_if (jt_w (jw_or (jt_cmp (op_eqD hr.units) s_eq (je_var (pv 2)) je_int (nomark _)) (jw_or1 (jt_cmp op_ge s_ge (j_abs T.b_abs (je_var (pv 2))) (j_len T.b_len (je_var (pv 1))) (nomark _))))) (jss_one (js_ret je_bl)) jss_nil)))) (jss_cons (js_asgF hC (by decide) (ps_set (i := 3) sc__law_leads.nd rfl (Or.inl rfl) (j_call G__law_start hr (by decide) (jar_bw (j_len T.b_len (je_var (pv 1))) jar_nil) rfl))) (jss_cons (js_for (sl := [2]) PassesOwn.never rfl (ji_seq (j_call G__law_reduced hr (by decide) (jar_bw (je_var (pv 0)) jar_nil) rfl)) (jg_nm hC (by decide) (by decide) (pg_name (i := 2) sc__law_leads.nd rfl (Or.inl rfl))) (jss_one (js_asgF hC (by decide) (ps_set (i := 3) sc__law_leads.nd rfl (Or.inl rfl) (j_call G__law_moved hr (by decide) (jar_bw (je_var (pv 3)) (jar_bw (je_var (pv 2)) jar_nil)) rfl))))) (jss_one (js_ret (je_cmp (op_eqD hr.units) s_eq (je_var (pv 3)) (je_var (pv 1)) (nomark _))))))))
theorem sc__law_row_holds : FnScope ["row", "due", "verdict", "answer"] ["row"] (defScope s__law_row_holds) := ⟨rfl, rfl, rfl, by decide +kernel, rfl, by decide +kernel, by decide +kernel⟩
theorem d__law_row_holds {fa : Addr} {fd : FuncData} (Fu : Fun K "_law_row_holds" "_law_row_holds" s__law_row_holds fa fd) (T : Txt mg) (T2 : Exs K mg) (G__law_is_due : Cal P w K mg base "_law_is_due" 2 ["row"] [.bw] f__law_is_due) (G_is_braid_row : Cal P w K mg base "is_braid_row" 3 ["strands", "row"] [.bw, .bw] f_is_braid_row) (G__law_asked : Cal P w K mg base "_law_asked" 7 ["row"] [.bw] f__law_asked) (G__law_leads : Cal P w K mg base "_law_leads" 3 ["word", "row"] [.bw, .bw] f__law_leads) : FnOk P w K mg base CX0 8 fa fd ["row"] (spJ K [.bw] f__law_row_holds) :=
  fnJ (k := 7) (n := 3) (f := b__law_row_holds) Fu sc__law_row_holds rfl rfl fun cdv A outer s H E C hr hC hL hW =>
    (jss_cons (js_asgF hC (by decide) (ps_set (i := 1) sc__law_row_holds.nd rfl (Or.inl rfl) (j_call G__law_is_due hr (by decide) (jar_bw (je_var (pv 0)) jar_nil) rfl))) (jss_cons (js_asgF hC (by decide) (ps_set (i := 2) sc__law_row_holds.nd rfl (Or.inl rfl) (j_call G_is_braid_row hr (by decide) (jar_bw (j_len T.b_len (je_var (pv 0))) (jar_bw (j_tuple T.b_tuple (je_var (pv 0))) jar_nil)) rfl))) (jss_cons (js_if (jt_w (jw_or (jt_not (jt_tru (j_isi_bool T.b_isinstance T.b_bool (je_var (pv 2))))) (jw_or1 (jt_cmp (op_neD hr.units) s_ne (je_var (pv 2)) (je_var (pv 1)) (nomark _))))) (jss_one (js_ret je_bl)) jss_nil) (jss_cons (js_asgF hC (by decide) (ps_set (i := 3) sc__law_row_holds.nd rfl (Or.inl rfl) (j_call G__law_asked hr (by decide) (jar_bw (je_var (pv 0)) jar_nil) rfl))) (jss_cons (js_if (jt_not (jt_tru (je_var (pv 1)))) (jss_one (js_ret (je_and (je_cmp (op_eqD hr.units) s_eq (j_ix (je_var (pv 3)) je_int) je_str (nomark _)) (je_one (j_ix (je_var (pv 3)) je_int))))) jss_nil) (jss_one (js_ret (je_and (je_cmp (op_eqD hr.units) s_eq (j_ix (je_var (pv 3)) je_int) je_str (nomark _)) (je_one (j_call G__law_leads hr (by decide) (jar_bw (j_ix (je_var (pv 3)) je_int) (jar_bw (je_var (pv 0)) jar_nil)) rfl))))))))))
theorem sc_law : FnScope ["script", "purse", "strands", "limit", "row", "turned", "changed"] ["script"] (defScope s_law) := ⟨rfl, rfl, rfl, by decide +kernel, rfl, by decide +kernel, by decide +kernel⟩
theorem d_law {fa : Addr} {fd : FuncData} (Fu : Fun K "law" "law" s_law fa fd) (T : Txt mg) (T2 : Exs K mg) (G__law_purse : Cal P w K mg base "_law_purse" 2 ["script", "k"] [.sc, .bw] f__law_purse) (G__law_take : Cal P w K mg base "_law_take" 1 ["purse", "size"] [.mt, .bw] f__law_take) (G__law_images : Cal P w K mg base "_law_images" 3 ["purse", "strands", "limit"] [.mt, .bw, .bw] f__law_images) (G__law_row_holds : Cal P w K mg base "_law_row_holds" 8 ["row"] [.bw] f__law_row_holds) (G__law_turned : Cal P w K mg base "_law_turned" 3 ["purse", "row"] [.mt, .bw] f__law_turned) (G__law_spoilt : Cal P w K mg base "_law_spoilt" 4 ["purse", "row"] [.mt, .bw] f__law_spoilt) : FnOk P w K mg base CX0 9 fa fd ["script"] (spJ K [.sc] f_law) :=
  fnJ (k := 8) (n := 6) (f := b_law) Fu sc_law rfl rfl fun cdv A outer s H E C hr hC hL hW =>
    (jss_cons (js_asg hC (by decide) (ps_set (i := 1) sc_law.nd rfl (Or.inl rfl) (j_call G__law_purse hr (by decide) (jar_sc (pv 0) (jar_bw je_int jar_nil)) rfl))) (jss_cons (js_asgF hC (by decide) (ps_set (i := 2) sc_law.nd rfl (Or.inl rfl) (j_ix (je_lst (ja_cons je_int (ja_cons je_int (ja_cons je_int (ja_cons je_int (ja_cons je_int (ja_cons je_int (ja_cons je_int (ja_cons je_int (ja_cons je_int (ja_cons je_int ja_nil))))))))))) (j_call G__law_take hr (by decide) (jar_mt (pv 1) (jar_bw je_int jar_nil)) rfl)))) (jss_cons (js_if (jt_cmp (op_eqD hr.units) s_eq (je_var (pv 2)) je_int (nomark _)) (jss_one (js_asgF hC (by decide) (ps_set (i := 2) sc_law.nd rfl (Or.inl rfl) (je_op op_sub s_sub je_int (j_call G__law_take hr (by decide) (jar_mt (pv 1) (jar_bw je_int jar_nil)) rfl))))) jss_nil) (jss_cons (js_asgF hC (by decide) (ps_set (i := 3) sc_law.nd rfl (Or.inl rfl) je_int)) (jss_cons (js_if (jt_cmp (op_eqD hr.units) s_eq (j_call G__law_take hr (by decide) (jar_mt (pv 1) (jar_bw je_int jar_nil)) rfl) je_int (nomark _)) (jss_one (js_asgF hC (by decide) (ps_set (i := 3) sc_law.nd rfl (Or.inl rfl) je_int))) jss_nil) (jss_cons (js_asgF hC (by decide) (ps_set (i := 4) sc_law.nd rfl (Or.inl rfl) (j_callT G__law_images hr (by decide) (j_call G__law_purse hr (by decide) (jar_sc (pv 0) (jar_bw je_int jar_nil)) rfl) (jar_bw (je_var (pv 2)) (jar_bw (je_var (pv 3)) jar_nil)) rfl))) (jss_cons (js_if (jt_not (jt_tru (j_call G__law_row_holds hr (by decide) (jar_bw (je_var (pv 4)) jar_nil) rfl))) (jss_one (js_ret je_bl)) jss_nil) (jss_cons (js_asgF hC (by decide) (ps_set (i := 5) sc_law.nd rfl (Or.inl rfl) (j_callT G__law_turned hr (by decide) (j_call G__law_purse hr (by decide) (jar_sc (pv 0) (jar_bw je_int jar_nil)) rfl) (jar_bw (je_var (pv 4)) jar_nil) rfl))) (jss_cons (js_if (jt_not (jt_tru (j_call G__law_row_holds hr (by decide) (jar_bw (je_var (pv 5)) jar_nil) rfl))) (jss_one (js_ret je_bl)) jss_nil) (jss_cons (js_for (sl := [6]) PassesOwn.never rfl (ji_seq (j_callT G__law_spoilt hr (by decide) (j_call G__law_purse hr (by decide) (jar_sc (pv 0) (jar_bw je_int jar_nil)) rfl) (jar_bw (je_var (pv 5)) jar_nil) rfl)) (jg_nm hC (by decide) (by decide) (pg_name (i := 6) sc_law.nd rfl (Or.inl rfl))) (jss_one (js_if (jt_not (jt_tru (j_call G__law_row_holds hr (by decide) (jar_bw (je_var (pv 6)) jar_nil) rfl))) (jss_one (js_ret je_bl)) jss_nil))) (jss_one (js_ret je_bl))))))))))))
theorem all_mk {l : PySem.W.OpenLaw} {w : World} {K : Fr} {h : Heap} {mg : Str → Option Value} {fa : Addr} (X : K.In h) (G : h.Ns mainGlobals mg) (hfa : mg "law" = some (.ref fa))
    {p0 p1 p2 p3 p4 p5 p6 p7 p8 p9 p10 p11 p12 p13 p14 p15 p16 p17 p18 p19 p20 p21 p22 p23 p24 p25 p26 p27 p28 p29 p30 p31 p32 : Addr} {od0 an0 od1 an1 od2 an2 od3 an3 od4 an4 od5 an5 od6 an6 od7 an7 od8 an8 od9 an9 od10 an10 od11 an11 od12 an12 od13 an13 od14 an14 od15 an15 od16 an16 od17 an17 od18 an18 od19 an19 od20 an20 od21 an21 od22 an22 od23 an23 od24 an24 od25 an25 od26 an26 od27 an27 od28 an28 od29 an29 od30 an30 od31 an31 od32 an32 : Option Addr} {sl0 sl1 sl2 sl3 sl4 sl5 sl6 sl7 sl8 sl9 sl10 sl11 sl12 sl13 sl14 sl15 sl16 sl17 sl18 sl19 sl20 sl21 sl22 sl23 sl24 sl25 sl26 sl27 sl28 sl29 sl30 sl31 sl32 : Array (Option Value)} {oc0 kV0 dc0 pm0 cd0 ct0 oc1 kV1 dc1 pm1 cd1 ct1 oc2 kV2 dc2 pm2 cd2 ct2 oc3 kV3 dc3 pm3 cd3 ct3 oc4 kV4 dc4 pm4 cd4 ct4 oc5 kV5 dc5 pm5 cd5 ct5 oc6 kV6 dc6 pm6 cd6 ct6 oc7 kV7 dc7 pm7 cd7 ct7 oc8 kV8 dc8 pm8 cd8 ct8 oc9 kV9 dc9 pm9 cd9 ct9 oc10 kV10 dc10 pm10 cd10 ct10 oc11 kV11 dc11 pm11 cd11 ct11 oc12 kV12 dc12 pm12 cd12 ct12 oc13 kV13 dc13 pm13 cd13 ct13 oc14 kV14 dc14 pm14 cd14 ct14 oc15 kV15 dc15 pm15 cd15 ct15 oc16 kV16 dc16 pm16 cd16 ct16 oc17 kV17 dc17 pm17 cd17 ct17 oc18 kV18 dc18 pm18 cd18 ct18 oc19 kV19 dc19 pm19 cd19 ct19 oc20 kV20 dc20 pm20 cd20 ct20 oc21 kV21 dc21 pm21 cd21 ct21 oc22 kV22 dc22 pm22 cd22 ct22 oc23 kV23 dc23 pm23 cd23 ct23 oc24 kV24 dc24 pm24 cd24 ct24 oc25 kV25 dc25 pm25 cd25 ct25 oc26 kV26 dc26 pm26 cd26 ct26 oc27 kV27 dc27 pm27 cd27 ct27 oc28 kV28 dc28 pm28 cd28 ct28 oc29 kV29 dc29 pm29 cd29 ct29 oc30 kV30 dc30 pm30 cd30 ct30 oc31 kV31 dc31 pm31 cd31 ct31 oc32 kV32 dc32 pm32 cd32 ct32 : Value}
    (a0 : PySem.W.nsIn K mainGlobals "_law_cell" = some (some (.ref p0))) (l0 : K.lookup p0 = some ⟨oc0, od0, .func (PySem.W.fnOf "_law_cell" "_law_cell" (defArgs s__law_cell) (defBody s__law_cell) (defScope s__law_cell) .none kV0 dc0 pm0 an0 cd0 ct0), sl0⟩) (c0 : PySem.W.codeIn K cd0 "_law_cell" = true) (k0 : PySem.W.keepIn K (.ref p0) = true)
    (a1 : PySem.W.nsIn K mainGlobals "_law_purse" = some (some (.ref p1))) (l1 : K.lookup p1 = some ⟨oc1, od1, .func (PySem.W.fnOf "_law_purse" "_law_purse" (defArgs s__law_purse) (defBody s__law_purse) (defScope s__law_purse) .none kV1 dc1 pm1 an1 cd1 ct1), sl1⟩) (c1 : PySem.W.codeIn K cd1 "_law_purse" = true) (k1 : PySem.W.keepIn K (.ref p1) = true)
    (a2 : PySem.W.nsIn K mainGlobals "_law_start" = some (some (.ref p2))) (l2 : K.lookup p2 = some ⟨oc2, od2, .func (PySem.W.fnOf "_law_start" "_law_start" (defArgs s__law_start) (defBody s__law_start) (defScope s__law_start) .none kV2 dc2 pm2 an2 cd2 ct2), sl2⟩) (c2 : PySem.W.codeIn K cd2 "_law_start" = true) (k2 : PySem.W.keepIn K (.ref p2) = true)
    (a3 : PySem.W.nsIn K mainGlobals "_law_take" = some (some (.ref p3))) (l3 : K.lookup p3 = some ⟨oc3, od3, .func (PySem.W.fnOf "_law_take" "_law_take" (defArgs s__law_take) (defBody s__law_take) (defScope s__law_take) .none kV3 dc3 pm3 an3 cd3 ct3), sl3⟩) (c3 : PySem.W.codeIn K cd3 "_law_take" = true) (k3 : PySem.W.keepIn K (.ref p3) = true)
    (a4 : PySem.W.nsIn K mainGlobals "_law_reduced" = some (some (.ref p4))) (l4 : K.lookup p4 = some ⟨oc4, od4, .func (PySem.W.fnOf "_law_reduced" "_law_reduced" (defArgs s__law_reduced) (defBody s__law_reduced) (defScope s__law_reduced) .none kV4 dc4 pm4 an4 cd4 ct4), sl4⟩) (c4 : PySem.W.codeIn K cd4 "_law_reduced" = true) (k4 : PySem.W.keepIn K (.ref p4) = true)
    (a5 : PySem.W.nsIn K mainGlobals "_law_against" = some (some (.ref p5))) (l5 : K.lookup p5 = some ⟨oc5, od5, .func (PySem.W.fnOf "_law_against" "_law_against" (defArgs s__law_against) (defBody s__law_against) (defScope s__law_against) .none kV5 dc5 pm5 an5 cd5 ct5), sl5⟩) (c5 : PySem.W.codeIn K cd5 "_law_against" = true) (k5 : PySem.W.keepIn K (.ref p5) = true)
    (a6 : PySem.W.nsIn K mainGlobals "_law_moved" = some (some (.ref p6))) (l6 : K.lookup p6 = some ⟨oc6, od6, .func (PySem.W.fnOf "_law_moved" "_law_moved" (defArgs s__law_moved) (defBody s__law_moved) (defScope s__law_moved) .none kV6 dc6 pm6 an6 cd6 ct6), sl6⟩) (c6 : PySem.W.codeIn K cd6 "_law_moved" = true) (k6 : PySem.W.keepIn K (.ref p6) = true)
    (a7 : PySem.W.nsIn K mainGlobals "_law_letter" = some (some (.ref p7))) (l7 : K.lookup p7 = some ⟨oc7, od7, .func (PySem.W.fnOf "_law_letter" "_law_letter" (defArgs s__law_letter) (defBody s__law_letter) (defScope s__law_letter) .none kV7 dc7 pm7 an7 cd7 ct7), sl7⟩) (c7 : PySem.W.codeIn K cd7 "_law_letter" = true) (k7 : PySem.W.keepIn K (.ref p7) = true)
    (a8 : PySem.W.nsIn K mainGlobals "_law_images" = some (some (.ref p8))) (l8 : K.lookup p8 = some ⟨oc8, od8, .func (PySem.W.fnOf "_law_images" "_law_images" (defArgs s__law_images) (defBody s__law_images) (defScope s__law_images) .none kV8 dc8 pm8 an8 cd8 ct8), sl8⟩) (c8 : PySem.W.codeIn K cd8 "_law_images" = true) (k8 : PySem.W.keepIn K (.ref p8) = true)
    (a9 : PySem.W.nsIn K mainGlobals "_law_conjugated" = some (some (.ref p9))) (l9 : K.lookup p9 = some ⟨oc9, od9, .func (PySem.W.fnOf "_law_conjugated" "_law_conjugated" (defArgs s__law_conjugated) (defBody s__law_conjugated) (defScope s__law_conjugated) .none kV9 dc9 pm9 an9 cd9 ct9), sl9⟩) (c9 : PySem.W.codeIn K cd9 "_law_conjugated" = true) (k9 : PySem.W.keepIn K (.ref p9) = true)
    (a10 : PySem.W.nsIn K mainGlobals "_law_turned" = some (some (.ref p10))) (l10 : K.lookup p10 = some ⟨oc10, od10, .func (PySem.W.fnOf "_law_turned" "_law_turned" (defArgs s__law_turned) (defBody s__law_turned) (defScope s__law_turned) .none kV10 dc10 pm10 an10 cd10 ct10), sl10⟩) (c10 : PySem.W.codeIn K cd10 "_law_turned" = true) (k10 : PySem.W.keepIn K (.ref p10) = true)
    (a11 : PySem.W.nsIn K mainGlobals "_law_put" = some (some (.ref p11))) (l11 : K.lookup p11 = some ⟨oc11, od11, .func (PySem.W.fnOf "_law_put" "_law_put" (defArgs s__law_put) (defBody s__law_put) (defScope s__law_put) .none kV11 dc11 pm11 an11 cd11 ct11), sl11⟩) (c11 : PySem.W.codeIn K cd11 "_law_put" = true) (k11 : PySem.W.keepIn K (.ref p11) = true)
    (a12 : PySem.W.nsIn K mainGlobals "_law_round" = some (some (.ref p12))) (l12 : K.lookup p12 = some ⟨oc12, od12, .func (PySem.W.fnOf "_law_round" "_law_round" (defArgs s__law_round) (defBody s__law_round) (defScope s__law_round) .none kV12 dc12 pm12 an12 cd12 ct12), sl12⟩) (c12 : PySem.W.codeIn K cd12 "_law_round" = true) (k12 : PySem.W.keepIn K (.ref p12) = true)
    (a13 : PySem.W.nsIn K mainGlobals "_law_behind" = some (some (.ref p13))) (l13 : K.lookup p13 = some ⟨oc13, od13, .func (PySem.W.fnOf "_law_behind" "_law_behind" (defArgs s__law_behind) (defBody s__law_behind) (defScope s__law_behind) .none kV13 dc13 pm13 an13 cd13 ct13), sl13⟩) (c13 : PySem.W.codeIn K cd13 "_law_behind" = true) (k13 : PySem.W.keepIn K (.ref p13) = true)
    (a14 : PySem.W.nsIn K mainGlobals "_law_spoilt" = some (some (.ref p14))) (l14 : K.lookup p14 = some ⟨oc14, od14, .func (PySem.W.fnOf "_law_spoilt" "_law_spoilt" (defArgs s__law_spoilt) (defBody s__law_spoilt) (defScope s__law_spoilt) .none kV14 dc14 pm14 an14 cd14 ct14), sl14⟩) (c14 : PySem.W.codeIn K cd14 "_law_spoilt" = true) (k14 : PySem.W.keepIn K (.ref p14) = true)
    (a15 : PySem.W.nsIn K mainGlobals "_law_is_conjugate" = some (some (.ref p15))) (l15 : K.lookup p15 = some ⟨oc15, od15, .func (PySem.W.fnOf "_law_is_conjugate" "_law_is_conjugate" (defArgs s__law_is_conjugate) (defBody s__law_is_conjugate) (defScope s__law_is_conjugate) .none kV15 dc15 pm15 an15 cd15 ct15), sl15⟩) (c15 : PySem.W.codeIn K cd15 "_law_is_conjugate" = true) (k15 : PySem.W.keepIn K (.ref p15) = true)
    (a16 : PySem.W.nsIn K mainGlobals "_law_is_due" = some (some (.ref p16))) (l16 : K.lookup p16 = some ⟨oc16, od16, .func (PySem.W.fnOf "_law_is_due" "_law_is_due" (defArgs s__law_is_due) (defBody s__law_is_due) (defScope s__law_is_due) .none kV16 dc16 pm16 an16 cd16 ct16), sl16⟩) (c16 : PySem.W.codeIn K cd16 "_law_is_due" = true) (k16 : PySem.W.keepIn K (.ref p16) = true)
    (a17 : PySem.W.nsIn K mainGlobals "free_word" = some (some (.ref p17))) (l17 : K.lookup p17 = some ⟨oc17, od17, .func (PySem.W.fnOf "free_word" "free_word" (defArgs s_free_word) (defBody s_free_word) (defScope s_free_word) .none kV17 dc17 pm17 an17 cd17 ct17), sl17⟩) (c17 : PySem.W.codeIn K cd17 "free_word" = true) (k17 : PySem.W.keepIn K (.ref p17) = true)
    (a18 : PySem.W.nsIn K mainGlobals "free_product" = some (some (.ref p18))) (l18 : K.lookup p18 = some ⟨oc18, od18, .func (PySem.W.fnOf "free_product" "free_product" (defArgs s_free_product) (defBody s_free_product) (defScope s_free_product) .none kV18 dc18 pm18 an18 cd18 ct18), sl18⟩) (c18 : PySem.W.codeIn K cd18 "free_product" = true) (k18 : PySem.W.keepIn K (.ref p18) = true)
    (a19 : PySem.W.nsIn K mainGlobals "free_inverse" = some (some (.ref p19))) (l19 : K.lookup p19 = some ⟨oc19, od19, .func (PySem.W.fnOf "free_inverse" "free_inverse" (defArgs s_free_inverse) (defBody s_free_inverse) (defScope s_free_inverse) .none kV19 dc19 pm19 an19 cd19 ct19), sl19⟩) (c19 : PySem.W.codeIn K cd19 "free_inverse" = true) (k19 : PySem.W.keepIn K (.ref p19) = true)
    (a20 : PySem.W.nsIn K mainGlobals "conjugate_parts" = some (some (.ref p20))) (l20 : K.lookup p20 = some ⟨oc20, od20, .func (PySem.W.fnOf "conjugate_parts" "conjugate_parts" (defArgs s_conjugate_parts) (defBody s_conjugate_parts) (defScope s_conjugate_parts) .none kV20 dc20 pm20 an20 cd20 ct20), sl20⟩) (c20 : PySem.W.codeIn K cd20 "conjugate_parts" = true) (k20 : PySem.W.keepIn K (.ref p20) = true)
    (a21 : PySem.W.nsIn K mainGlobals "is_braid_row" = some (some (.ref p21))) (l21 : K.lookup p21 = some ⟨oc21, od21, .func (PySem.W.fnOf "is_braid_row" "is_braid_row" (defArgs s_is_braid_row) (defBody s_is_braid_row) (defScope s_is_braid_row) .none kV21 dc21 pm21 an21 cd21 ct21), sl21⟩) (c21 : PySem.W.codeIn K cd21 "is_braid_row" = true) (k21 : PySem.W.keepIn K (.ref p21) = true)
    (a22 : PySem.W.nsIn K mainGlobals "conjugated_free" = some (some (.ref p22))) (l22 : K.lookup p22 = some ⟨oc22, od22, .func (PySem.W.fnOf "conjugated_free" "conjugated_free" (defArgs s_conjugated_free) (defBody s_conjugated_free) (defScope s_conjugated_free) .none kV22 dc22 pm22 an22 cd22 ct22), sl22⟩) (c22 : PySem.W.codeIn K cd22 "conjugated_free" = true) (k22 : PySem.W.keepIn K (.ref p22) = true)
    (a23 : PySem.W.nsIn K mainGlobals "_over" = some (some (.ref p23))) (l23 : K.lookup p23 = some ⟨oc23, od23, .func (PySem.W.fnOf "_over" "_over" (defArgs s__over) (defBody s__over) (defScope s__over) .none kV23 dc23 pm23 an23 cd23 ct23), sl23⟩) (c23 : PySem.W.codeIn K cd23 "_over" = true) (k23 : PySem.W.keepIn K (.ref p23) = true)
    (a24 : PySem.W.nsIn K mainGlobals "_under" = some (some (.ref p24))) (l24 : K.lookup p24 = some ⟨oc24, od24, .func (PySem.W.fnOf "_under" "_under" (defArgs s__under) (defBody s__under) (defScope s__under) .none kV24 dc24 pm24 an24 cd24 ct24), sl24⟩) (c24 : PySem.W.codeIn K cd24 "_under" = true) (k24 : PySem.W.keepIn K (.ref p24) = true)
    (a25 : PySem.W.nsIn K mainGlobals "_shortening_letter" = some (some (.ref p25))) (l25 : K.lookup p25 = some ⟨oc25, od25, .func (PySem.W.fnOf "_shortening_letter" "_shortening_letter" (defArgs s__shortening_letter) (defBody s__shortening_letter) (defScope s__shortening_letter) .none kV25 dc25 pm25 an25 cd25 ct25), sl25⟩) (c25 : PySem.W.codeIn K cd25 "_shortening_letter" = true) (k25 : PySem.W.keepIn K (.ref p25) = true)
    (a26 : PySem.W.nsIn K mainGlobals "inverse_word" = some (some (.ref p26))) (l26 : K.lookup p26 = some ⟨oc26, od26, .func (PySem.W.fnOf "inverse_word" "inverse_word" (defArgs s_inverse_word) (defBody s_inverse_word) (defScope s_inverse_word) .none kV26 dc26 pm26 an26 cd26 ct26), sl26⟩) (c26 : PySem.W.codeIn K cd26 "inverse_word" = true) (k26 : PySem.W.keepIn K (.ref p26) = true)
    (a27 : PySem.W.nsIn K mainGlobals "act" = some (some (.ref p27))) (l27 : K.lookup p27 = some ⟨oc27, od27, .func (PySem.W.fnOf "act" "act" (defArgs s_act) (defBody s_act) (defScope s_act) .none kV27 dc27 pm27 an27 cd27 ct27), sl27⟩) (c27 : PySem.W.codeIn K cd27 "act" = true) (k27 : PySem.W.keepIn K (.ref p27) = true)
    (a28 : PySem.W.nsIn K mainGlobals "braid_of" = some (some (.ref p28))) (l28 : K.lookup p28 = some ⟨oc28, od28, .func (PySem.W.fnOf "braid_of" "braid_of" (defArgs s_braid_of) (defBody s_braid_of) (defScope s_braid_of) .none kV28 dc28 pm28 an28 cd28 ct28), sl28⟩) (c28 : PySem.W.codeIn K cd28 "braid_of" = true) (k28 : PySem.W.keepIn K (.ref p28) = true)
    (a29 : PySem.W.nsIn K mainGlobals "_law_asked" = some (some (.ref p29))) (l29 : K.lookup p29 = some ⟨oc29, od29, .func (PySem.W.fnOf "_law_asked" "_law_asked" (defArgs s__law_asked) (defBody s__law_asked) (defScope s__law_asked) .none kV29 dc29 pm29 an29 cd29 ct29), sl29⟩) (c29 : PySem.W.codeIn K cd29 "_law_asked" = true) (k29 : PySem.W.keepIn K (.ref p29) = true)
    (a30 : PySem.W.nsIn K mainGlobals "_law_leads" = some (some (.ref p30))) (l30 : K.lookup p30 = some ⟨oc30, od30, .func (PySem.W.fnOf "_law_leads" "_law_leads" (defArgs s__law_leads) (defBody s__law_leads) (defScope s__law_leads) .none kV30 dc30 pm30 an30 cd30 ct30), sl30⟩) (c30 : PySem.W.codeIn K cd30 "_law_leads" = true) (k30 : PySem.W.keepIn K (.ref p30) = true)
    (a31 : PySem.W.nsIn K mainGlobals "_law_row_holds" = some (some (.ref p31))) (l31 : K.lookup p31 = some ⟨oc31, od31, .func (PySem.W.fnOf "_law_row_holds" "_law_row_holds" (defArgs s__law_row_holds) (defBody s__law_row_holds) (defScope s__law_row_holds) .none kV31 dc31 pm31 an31 cd31 ct31), sl31⟩) (c31 : PySem.W.codeIn K cd31 "_law_row_holds" = true) (k31 : PySem.W.keepIn K (.ref p31) = true)
    (a32 : PySem.W.nsIn K mainGlobals "law" = some (some (.ref p32))) (l32 : K.lookup p32 = some ⟨oc32, od32, .func (PySem.W.fnOf "law" "law" (defArgs s_law) (defBody s_law) (defScope s_law) .none kV32 dc32 pm32 an32 cd32 ct32), sl32⟩) (c32 : PySem.W.codeIn K cd32 "law" = true) (k32 : PySem.W.keepIn K (.ref p32) = true)
    (z_abs : PySem.W.nsIn K mainGlobals "abs" = some none)
    (z_bool : PySem.W.nsIn K mainGlobals "bool" = some none)
    (z_int : PySem.W.nsIn K mainGlobals "int" = some none)
    (z_isinstance : PySem.W.nsIn K mainGlobals "isinstance" = some none)
    (z_len : PySem.W.nsIn K mainGlobals "len" = some none)
    (z_list : PySem.W.nsIn K mainGlobals "list" = some none)
    (z_max : PySem.W.nsIn K mainGlobals "max" = some none)
    (z_range : PySem.W.nsIn K mainGlobals "range" = some none)
    (z_reversed : PySem.W.nsIn K mainGlobals "reversed" = some none)
    (z_sum : PySem.W.nsIn K mainGlobals "sum" = some none)
    (z_tuple : PySem.W.nsIn K mainGlobals "tuple" = some none)
    {c_NotBraidRow c_BraidError c_NotPure : Addr}
    (ae_NotBraidRow : PySem.W.nsIn K mainGlobals "NotBraidRow" = some (some (.ref c_NotBraidRow)))
    (ae_BraidError : PySem.W.nsIn K mainGlobals "BraidError" = some (some (.ref c_BraidError)))
    (ae_NotPure : PySem.W.nsIn K mainGlobals "NotPure" = some (some (.ref c_NotPure)))
    (z_ValueError : PySem.W.nsIn K mainGlobals "ValueError" = some none)
    (xP_NotBraidRow : PySem.W.excIn K c_NotBraidRow [.type "ValueError", .type "Exception", .type "BaseException", .type "object"] "ValueError.__new__" = true)
    (kP_NotBraidRow : PySem.W.keepIn K (.ref c_NotBraidRow) = true)
    (bP_NotBraidRow : PySem.W.subIn K (.ref c_NotBraidRow) (.type "BaseException") = some true)
    (tP_NotBraidRow : PySem.W.typeIn K (.ref c_NotBraidRow) = some (.type "type"))
    (hg_NotBraidRow : PySem.W.findIn K (.ref c_NotBraidRow) "__getattribute__" = some (some (.builtin "BaseException.__getattribute__")))
    (hk_NotBraidRow : PySem.W.findIn K (.ref c_NotBraidRow) "__getattr__" = some none)
    (hs_NotBraidRow : PySem.W.subIn K (.ref c_NotBraidRow) (.type "BaseException") = some true)
    (hd_NotBraidRow : PySem.W.hasDictIn K c_NotBraidRow = true)
    (ha_NotBraidRow : PySem.W.findIn K (.ref c_NotBraidRow) "__class__" = some (some (.builtin "object.__class__")))
    (hn_NotBraidRow : PySem.W.specialIn K (.builtin "object.__class__") "__get__" = some (some (.builtin "getset_descriptor.__get__")))
    (ht_NotBraidRow : PySem.W.takesIn K (.builtin "object.__class__") = some true)
    (hm_NotBraidRow : PySem.W.mroIn K c_NotBraidRow (.type "object") = some true)
    (em_NotBraidRow_NotBraidRow : PySem.W.exmOne K (.ref c_NotBraidRow) (.ref c_NotBraidRow) = some true)
    (ei_BraidError_NotBraidRow : PySem.W.kitOne K (.ref c_NotBraidRow) (.ref c_BraidError) = some true)
    (ei_ValueError_NotBraidRow : PySem.W.kitOne K (.ref c_NotBraidRow) (.type "ValueError") = some true)
    (ei_NotPure_NotBraidRow : PySem.W.kitOne K (.ref c_NotBraidRow) (.ref c_NotPure) = some false)
    : ∃ fd : FuncData, (∀ (s : Shared) (v : Value), BindsTo s fd ⟨[v], []⟩ [("script", v)]) ∧ ∀ base : Heap, K.In base → base.Ns mainGlobals mg → FnOk l.prog w K mg base CX0 9 fa fd ["script"] (spJ K [.sc] f_law) := by
  have T : Txt mg := ⟨PySem.W.mg_none_of X G z_abs, PySem.W.mg_none_of X G z_bool, PySem.W.mg_none_of X G z_int, PySem.W.mg_none_of X G z_isinstance, PySem.W.mg_none_of X G z_len, PySem.W.mg_none_of X G z_list, PySem.W.mg_none_of X G z_max, PySem.W.mg_none_of X G z_range, PySem.W.mg_none_of X G z_reversed, PySem.W.mg_none_of X G z_sum, PySem.W.mg_none_of X G z_tuple⟩
  have T2 : Exs K mg := ⟨exR_mk (h := h) (PySem.W.mg_of X G ae_NotBraidRow) xP_NotBraidRow kP_NotBraidRow bP_NotBraidRow tP_NotBraidRow, ⟨(.ref c_NotBraidRow), (.inl (PySem.W.mg_of X G ae_NotBraidRow)), (tb_cons ⟨c_NotBraidRow, PySem.W.mg_of X G ae_NotBraidRow, em_NotBraidRow_NotBraidRow⟩ tb_nil)⟩, ⟨(.ref c_BraidError), (V.ref c_BraidError), (.inl (PySem.W.mg_of X G ae_BraidError)), rfl, fun _ z => z, (tb_cons ⟨c_NotBraidRow, PySem.W.mg_of X G ae_NotBraidRow, ⟨hg_NotBraidRow, hk_NotBraidRow, hs_NotBraidRow, hd_NotBraidRow, ha_NotBraidRow, hn_NotBraidRow, ht_NotBraidRow, hm_NotBraidRow⟩, ei_BraidError_NotBraidRow⟩ tb_nil)⟩, ⟨(.type "ValueError"), (V.ty "ValueError"), (.inr ⟨PySem.W.mg_none_of X G z_ValueError, by decide +kernel, by decide⟩), rfl, fun _ z => z, (tb_cons ⟨c_NotBraidRow, PySem.W.mg_of X G ae_NotBraidRow, ⟨hg_NotBraidRow, hk_NotBraidRow, hs_NotBraidRow, hd_NotBraidRow, ha_NotBraidRow, hn_NotBraidRow, ht_NotBraidRow, hm_NotBraidRow⟩, ei_ValueError_NotBraidRow⟩ tb_nil)⟩, ⟨(.ref c_NotPure), (V.ref c_NotPure), (.inl (PySem.W.mg_of X G ae_NotPure)), rfl, fun _ z => z, (tb_cons ⟨c_NotBraidRow, PySem.W.mg_of X G ae_NotBraidRow, ⟨hg_NotBraidRow, hk_NotBraidRow, hs_NotBraidRow, hd_NotBraidRow, ha_NotBraidRow, hn_NotBraidRow, ht_NotBraidRow, hm_NotBraidRow⟩, ei_NotPure_NotBraidRow⟩ tb_nil)⟩⟩
  have e := hfa.symm.trans (PySem.W.mg_of X G a32)
  cases e
  have F0 := fun_mk (st := s__law_cell) l0 c0 k0
  have B0 := F0.binds (ps := ["script", "k"]) fun _ _ _ _ _ _ us hl => match us, hl with | [_, _], _ => rfl
  have F1 := fun_mk (st := s__law_purse) l1 c1 k1
  have B1 := F1.binds (ps := ["script", "k"]) fun _ _ _ _ _ _ us hl => match us, hl with | [_, _], _ => rfl
  have F2 := fun_mk (st := s__law_start) l2 c2 k2
  have B2 := F2.binds (ps := ["strands"]) fun _ _ _ _ _ _ us hl => match us, hl with | [_], _ => rfl
  have F3 := fun_mk (st := s__law_take) l3 c3 k3
  have B3 := F3.binds (ps := ["purse", "size"]) fun _ _ _ _ _ _ us hl => match us, hl with | [_, _], _ => rfl
  have F4 := fun_mk (st := s__law_reduced) l4 c4 k4
  have B4 := F4.binds (ps := ["letters"]) fun _ _ _ _ _ _ us hl => match us, hl with | [_], _ => rfl
  have F5 := fun_mk (st := s__law_against) l5 c5 k5
  have B5 := F5.binds (ps := ["word"]) fun _ _ _ _ _ _ us hl => match us, hl with | [_], _ => rfl
  have F6 := fun_mk (st := s__law_moved) l6 c6 k6
  have B6 := F6.binds (ps := ["row", "letter"]) fun _ _ _ _ _ _ us hl => match us, hl with | [_, _], _ => rfl
  have F7 := fun_mk (st := s__law_letter) l7 c7 k7
  have B7 := F7.binds (ps := ["purse", "size"]) fun _ _ _ _ _ _ us hl => match us, hl with | [_, _], _ => rfl
  have F8 := fun_mk (st := s__law_images) l8 c8 k8
  have B8 := F8.binds (ps := ["purse", "strands", "limit"]) fun _ _ _ _ _ _ us hl => match us, hl with | [_, _, _], _ => rfl
  have F9 := fun_mk (st := s__law_conjugated) l9 c9 k9
  have B9 := F9.binds (ps := ["entry", "by"]) fun _ _ _ _ _ _ us hl => match us, hl with | [_, _], _ => rfl
  have F10 := fun_mk (st := s__law_turned) l10 c10 k10
  have B10 := F10.binds (ps := ["purse", "row"]) fun _ _ _ _ _ _ us hl => match us, hl with | [_, _], _ => rfl
  have F11 := fun_mk (st := s__law_put) l11 c11 k11
  have B11 := F11.binds (ps := ["row", "at", "entry"]) fun _ _ _ _ _ _ us hl => match us, hl with | [_, _, _], _ => rfl
  have F12 := fun_mk (st := s__law_round) l12 c12 k12
  have B12 := F12.binds (ps := ["row"]) fun _ _ _ _ _ _ us hl => match us, hl with | [_], _ => rfl
  have F13 := fun_mk (st := s__law_behind) l13 c13 k13
  have B13 := F13.binds (ps := ["purse", "row"]) fun _ _ _ _ _ _ us hl => match us, hl with | [_, _], _ => rfl
  have F14 := fun_mk (st := s__law_spoilt) l14 c14 k14
  have B14 := F14.binds (ps := ["purse", "row"]) fun _ _ _ _ _ _ us hl => match us, hl with | [_, _], _ => rfl
  have F15 := fun_mk (st := s__law_is_conjugate) l15 c15 k15
  have B15 := F15.binds (ps := ["entry"]) fun _ _ _ _ _ _ us hl => match us, hl with | [_], _ => rfl
  have F16 := fun_mk (st := s__law_is_due) l16 c16 k16
  have B16 := F16.binds (ps := ["row"]) fun _ _ _ _ _ _ us hl => match us, hl with | [_], _ => rfl
  have F17 := fun_mk (st := s_free_word) l17 c17 k17
  have B17 := F17.binds (ps := ["letters"]) fun _ _ _ _ _ _ us hl => match us, hl with | [_], _ => rfl
  have F18 := fun_mk (st := s_free_product) l18 c18 k18
  have F19 := fun_mk (st := s_free_inverse) l19 c19 k19
  have B19 := F19.binds (ps := ["word"]) fun _ _ _ _ _ _ us hl => match us, hl with | [_], _ => rfl
  have F20 := fun_mk (st := s_conjugate_parts) l20 c20 k20
  have B20 := F20.binds (ps := ["word"]) fun _ _ _ _ _ _ us hl => match us, hl with | [_], _ => rfl
  have F21 := fun_mk (st := s_is_braid_row) l21 c21 k21
  have B21 := F21.binds (ps := ["strands", "row"]) fun _ _ _ _ _ _ us hl => match us, hl with | [_, _], _ => rfl
  have F22 := fun_mk (st := s_conjugated_free) l22 c22 k22
  have B22 := F22.binds (ps := ["word", "by"]) fun _ _ _ _ _ _ us hl => match us, hl with | [_, _], _ => rfl
  have F23 := fun_mk (st := s__over) l23 c23 k23
  have B23 := F23.binds (ps := ["first", "second"]) fun _ _ _ _ _ _ us hl => match us, hl with | [_, _], _ => rfl
  have F24 := fun_mk (st := s__under) l24 c24 k24
  have B24 := F24.binds (ps := ["first", "second"]) fun _ _ _ _ _ _ us hl => match us, hl with | [_, _], _ => rfl
  have F25 := fun_mk (st := s__shortening_letter) l25 c25 k25
  have B25 := F25.binds (ps := ["row"]) fun _ _ _ _ _ _ us hl => match us, hl with | [_], _ => rfl
  have F26 := fun_mk (st := s_inverse_word) l26 c26 k26
  have B26 := F26.binds (ps := ["word"]) fun _ _ _ _ _ _ us hl => match us, hl with | [_], _ => rfl
  have F27 := fun_mk (st := s_act) l27 c27 k27
  have B27 := F27.binds (ps := ["row", "word"]) fun _ _ _ _ _ _ us hl => match us, hl with | [_, _], _ => rfl
  have F28 := fun_mk (st := s_braid_of) l28 c28 k28
  have B28 := F28.binds (ps := ["strands", "row"]) fun _ _ _ _ _ _ us hl => match us, hl with | [_, _], _ => rfl
  have F29 := fun_mk (st := s__law_asked) l29 c29 k29
  have B29 := F29.binds (ps := ["row"]) fun _ _ _ _ _ _ us hl => match us, hl with | [_], _ => rfl
  have F30 := fun_mk (st := s__law_leads) l30 c30 k30
  have B30 := F30.binds (ps := ["word", "row"]) fun _ _ _ _ _ _ us hl => match us, hl with | [_, _], _ => rfl
  have F31 := fun_mk (st := s__law_row_holds) l31 c31 k31
  have B31 := F31.binds (ps := ["row"]) fun _ _ _ _ _ _ us hl => match us, hl with | [_], _ => rfl
  have F32 := fun_mk (st := s_law) l32 c32 k32
  refine ⟨PySem.W.fnOf "law" "law" (defArgs s_law) (defBody s_law) (defScope s_law) .none kV32 dc32 pm32 an32 cd32 ct32, fun s v => .of_eq rfl, fun base _ _ => ?_⟩
  have G0 : Cal l.prog w K mg base "_law_cell" 1 ["script", "k"] [.sc, .bw] f__law_cell := ⟨p0, _, d__law_cell F0 T T2, PySem.W.mg_of X G a0, k0, B0⟩
  have G1 : Cal l.prog w K mg base "_law_purse" 2 ["script", "k"] [.sc, .bw] f__law_purse := ⟨p1, _, d__law_purse F1 T T2 G0, PySem.W.mg_of X G a1, k1, B1⟩
  have G2 : Cal l.prog w K mg base "_law_start" 1 ["strands"] [.bw] f__law_start := ⟨p2, _, d__law_start F2 T T2, PySem.W.mg_of X G a2, k2, B2⟩
  have G3 : Cal l.prog w K mg base "_law_take" 1 ["purse", "size"] [.mt, .bw] f__law_take := ⟨p3, _, d__law_take F3 T T2, PySem.W.mg_of X G a3, k3, B3⟩
  have G4 : Cal l.prog w K mg base "_law_reduced" 1 ["letters"] [.bw] f__law_reduced := ⟨p4, _, d__law_reduced F4 T T2, PySem.W.mg_of X G a4, k4, B4⟩
  have G5 : Cal l.prog w K mg base "_law_against" 1 ["word"] [.bw] f__law_against := ⟨p5, _, d__law_against F5 T T2, PySem.W.mg_of X G a5, k5, B5⟩
  have G6 : Cal l.prog w K mg base "_law_moved" 2 ["row", "letter"] [.bw, .bw] f__law_moved := ⟨p6, _, d__law_moved F6 T T2 G4 G5, PySem.W.mg_of X G a6, k6, B6⟩
  have G7 : Cal l.prog w K mg base "_law_letter" 2 ["purse", "size"] [.mt, .bw] f__law_letter := ⟨p7, _, d__law_letter F7 T T2 G3, PySem.W.mg_of X G a7, k7, B7⟩
  have G8 : Cal l.prog w K mg base "_law_images" 3 ["purse", "strands", "limit"] [.mt, .bw, .bw] f__law_images := ⟨p8, _, d__law_images F8 T T2 G2 G3 G6 G7, PySem.W.mg_of X G a8, k8, B8⟩
  have G9 : Cal l.prog w K mg base "_law_conjugated" 2 ["entry", "by"] [.bw, .bw] f__law_conjugated := ⟨p9, _, d__law_conjugated F9 T T2 G4 G5, PySem.W.mg_of X G a9, k9, B9⟩
  have G10 : Cal l.prog w K mg base "_law_turned" 3 ["purse", "row"] [.mt, .bw] f__law_turned := ⟨p10, _, d__law_turned F10 T T2 G3 G5 G9, PySem.W.mg_of X G a10, k10, B10⟩
  have G11 : Cal l.prog w K mg base "_law_put" 2 ["row", "at", "entry"] [.bw, .bw, .bw] f__law_put := ⟨p11, _, d__law_put F11 T T2 G4, PySem.W.mg_of X G a11, k11, B11⟩
  have G12 : Cal l.prog w K mg base "_law_round" 1 ["row"] [.bw] f__law_round := ⟨p12, _, d__law_round F12 T T2, PySem.W.mg_of X G a12, k12, B12⟩
  have G13 : Cal l.prog w K mg base "_law_behind" 3 ["purse", "row"] [.mt, .bw] f__law_behind := ⟨p13, _, d__law_behind F13 T T2 G3 G7 G11 G5, PySem.W.mg_of X G a13, k13, B13⟩
  have G14 : Cal l.prog w K mg base "_law_spoilt" 4 ["purse", "row"] [.mt, .bw] f__law_spoilt := ⟨p14, _, d__law_spoilt F14 T T2 G3 G7 G4 G11 G5 G9 G12 G13, PySem.W.mg_of X G a14, k14, B14⟩
  have G15 : Cal l.prog w K mg base "_law_is_conjugate" 1 ["entry"] [.bw] f__law_is_conjugate := ⟨p15, _, d__law_is_conjugate F15 T T2, PySem.W.mg_of X G a15, k15, B15⟩
  have G16 : Cal l.prog w K mg base "_law_is_due" 2 ["row"] [.bw] f__law_is_due := ⟨p16, _, d__law_is_due F16 T T2 G15 G4, PySem.W.mg_of X G a16, k16, B16⟩
  have G17 : Cal l.prog w K mg base "free_word" 1 ["letters"] [.bw] f_free_word := ⟨p17, _, d_free_word F17 T T2, PySem.W.mg_of X G a17, k17, B17⟩
  have G18 : CalV l.prog w K mg base "free_product" 2 f_free_product := ⟨p18, d_free_product F18 T T2 G17, PySem.W.mg_of X G a18, k18⟩
  have G19 : Cal l.prog w K mg base "free_inverse" 1 ["word"] [.bw] f_free_inverse := ⟨p19, _, d_free_inverse F19 T T2, PySem.W.mg_of X G a19, k19, B19⟩
  have G20 : Cal l.prog w K mg base "conjugate_parts" 2 ["word"] [.bw] f_conjugate_parts := ⟨p20, _, d_conjugate_parts F20 T T2 G19, PySem.W.mg_of X G a20, k20, B20⟩
  have G21 : Cal l.prog w K mg base "is_braid_row" 3 ["strands", "row"] [.bw, .bw] f_is_braid_row := ⟨p21, _, d_is_braid_row F21 T T2 G20 G18, PySem.W.mg_of X G a21, k21, B21⟩
  have G22 : Cal l.prog w K mg base "conjugated_free" 3 ["word", "by"] [.fz, .fz] f_conjugated_free := ⟨p22, _, d_conjugated_free F22 T T2 G18 G19, PySem.W.mg_of X G a22, k22, B22⟩
  have G23 : Cal l.prog w K mg base "_over" 4 ["first", "second"] [.fz, .fz] f__over := ⟨p23, _, d__over F23 T T2 G22, PySem.W.mg_of X G a23, k23, B23⟩
  have G24 : Cal l.prog w K mg base "_under" 4 ["first", "second"] [.fz, .bw] f__under := ⟨p24, _, d__under F24 T T2 G22 G19, PySem.W.mg_of X G a24, k24, B24⟩
  have G25 : Cal l.prog w K mg base "_shortening_letter" 5 ["row"] [.bw] f__shortening_letter := ⟨p25, _, d__shortening_letter F25 T T2 G23 G24, PySem.W.mg_of X G a25, k25, B25⟩
  have G26 : Cal l.prog w K mg base "inverse_word" 1 ["word"] [.bw] f_inverse_word := ⟨p26, _, d_inverse_word F26 T T2, PySem.W.mg_of X G a26, k26, B26⟩
  have G27 : Cal l.prog w K mg base "act" 5 ["row", "word"] [.bw, .bw] f_act := ⟨p27, _, d_act F27 T T2 G23 G24, PySem.W.mg_of X G a27, k27, B27⟩
  have G28 : CalX l.prog w K mg base "braid_of" 6 ["strands", "row"] [.bw, .bw] f_braid_of := ⟨p28, _, d_braid_of F28 T T2 G21 G25 G27 G26, PySem.W.mg_of X G a28, k28, B28⟩
  have G29 : Cal l.prog w K mg base "_law_asked" 7 ["row"] [.bw] f__law_asked := ⟨p29, _, d__law_asked F29 T T2 G28, PySem.W.mg_of X G a29, k29, B29⟩
  have G30 : Cal l.prog w K mg base "_law_leads" 3 ["word", "row"] [.bw, .bw] f__law_leads := ⟨p30, _, d__law_leads F30 T T2 G2 G4 G6, PySem.W.mg_of X G a30, k30, B30⟩
  have G31 : Cal l.prog w K mg base "_law_row_holds" 8 ["row"] [.bw] f__law_row_holds := ⟨p31, _, d__law_row_holds F31 T T2 G16 G21 G29 G30, PySem.W.mg_of X G a31, k31, B31⟩
  exact d_law F32 T T2 G1 G3 G8 G31 G10 G14
end
end K15
open PySem PySem.W PyProof.Rows
set_option maxRecDepth 100000 in
set_option maxHeartbeats 0 in
theorem PySem.Challenge.cw_sennit_k15_whole_braid_back_holds : PySem.Challenge.rw_sennit_k15_whole_braid_back.Holds := by
  w_on; o_law; k_head; (case hw => w_witness2)
  k_fill
  refine J.jwalk (l := PySem.Challenge.rw_sennit_k15_whole_braid_back) (k := 9) (x := "script") rfl rfl ⟨rfl, by decide, by decide⟩ (fun w h Y => PySem.W.kIn_of Y) K15.law_true ?F
  case F =>
    intro w mg fa h KX G hmg
    refine' K15.all_mk KX G hmg ?a0 ?l0 ?c0 ?k0 ?a1 ?l1 ?c1 ?k1 ?a2 ?l2 ?c2 ?k2 ?a3 ?l3 ?c3 ?k3 ?a4 ?l4 ?c4 ?k4 ?a5 ?l5 ?c5 ?k5 ?a6 ?l6 ?c6 ?k6 ?a7 ?l7 ?c7 ?k7 ?a8 ?l8 ?c8 ?k8 ?a9 ?l9 ?c9 ?k9 ?a10 ?l10 ?c10 ?k10 ?a11 ?l11 ?c11 ?k11 ?a12 ?l12 ?c12 ?k12 ?a13 ?l13 ?c13 ?k13 ?a14 ?l14 ?c14 ?k14 ?a15 ?l15 ?c15 ?k15 ?a16 ?l16 ?c16 ?k16 ?a17 ?l17 ?c17 ?k17 ?a18 ?l18 ?c18 ?k18 ?a19 ?l19 ?c19 ?k19 ?a20 ?l20 ?c20 ?k20 ?a21 ?l21 ?c21 ?k21 ?a22 ?l22 ?c22 ?k22 ?a23 ?l23 ?c23 ?k23 ?a24 ?l24 ?c24 ?k24 ?a25 ?l25 ?c25 ?k25 ?a26 ?l26 ?c26 ?k26 ?a27 ?l27 ?c27 ?k27 ?a28 ?l28 ?c28 ?k28 ?a29 ?l29 ?c29 ?k29 ?a30 ?l30 ?c30 ?k30 ?a31 ?l31 ?c31 ?k31 ?a32 ?l32 ?c32 ?k32 ?z_abs ?z_bool ?z_int ?z_isinstance ?z_len ?z_list ?z_max ?z_range ?z_reversed ?z_sum ?z_tuple ?ae_NotBraidRow ?ae_BraidError ?ae_NotPure ?z_ValueError ?xP_NotBraidRow ?kP_NotBraidRow ?bP_NotBraidRow ?tP_NotBraidRow ?hg_NotBraidRow ?hk_NotBraidRow ?hs_NotBraidRow ?hd_NotBraidRow ?ha_NotBraidRow ?hn_NotBraidRow ?ht_NotBraidRow ?hm_NotBraidRow ?em_NotBraidRow_NotBraidRow ?ei_BraidError_NotBraidRow ?ei_ValueError_NotBraidRow ?ei_NotPure_NotBraidRow
    (case a0 => k_is)
    (case l0 => k_is)
    (case c0 => k_is)
    (case k0 => k_is)
    (case a1 => k_is)
    (case l1 => k_is)
    (case c1 => k_is)
    (case k1 => k_is)
    (case a2 => k_is)
    (case l2 => k_is)
    (case c2 => k_is)
    (case k2 => k_is)
    (case a3 => k_is)
    (case l3 => k_is)
    (case c3 => k_is)
    (case k3 => k_is)
    (case a4 => k_is)
    (case l4 => k_is)
    (case c4 => k_is)
    (case k4 => k_is)
    (case a5 => k_is)
    (case l5 => k_is)
    (case c5 => k_is)
    (case k5 => k_is)
    (case a6 => k_is)
    (case l6 => k_is)
    (case c6 => k_is)
    (case k6 => k_is)
    (case a7 => k_is)
    (case l7 => k_is)
    (case c7 => k_is)
    (case k7 => k_is)
    (case a8 => k_is)
    (case l8 => k_is)
    (case c8 => k_is)
    (case k8 => k_is)
    (case a9 => k_is)
    (case l9 => k_is)
    (case c9 => k_is)
    (case k9 => k_is)
    (case a10 => k_is)
    (case l10 => k_is)
    (case c10 => k_is)
    (case k10 => k_is)
    (case a11 => k_is)
    (case l11 => k_is)
    (case c11 => k_is)
    (case k11 => k_is)
    (case a12 => k_is)
    (case l12 => k_is)
    (case c12 => k_is)
    (case k12 => k_is)
    (case a13 => k_is)
    (case l13 => k_is)
    (case c13 => k_is)
    (case k13 => k_is)
    (case a14 => k_is)
    (case l14 => k_is)
    (case c14 => k_is)
    (case k14 => k_is)
    (case a15 => k_is)
    (case l15 => k_is)
    (case c15 => k_is)
    (case k15 => k_is)
    (case a16 => k_is)
    (case l16 => k_is)
    (case c16 => k_is)
    (case k16 => k_is)
    (case a17 => k_is)
    (case l17 => k_is)
    (case c17 => k_is)
    (case k17 => k_is)
    (case a18 => k_is)
    (case l18 => k_is)
    (case c18 => k_is)
    (case k18 => k_is)
    (case a19 => k_is)
    (case l19 => k_is)
    (case c19 => k_is)
    (case k19 => k_is)
    (case a20 => k_is)
    (case l20 => k_is)
    (case c20 => k_is)
    (case k20 => k_is)
    (case a21 => k_is)
    (case l21 => k_is)
    (case c21 => k_is)
    (case k21 => k_is)
    (case a22 => k_is)
    (case l22 => k_is)
    (case c22 => k_is)
    (case k22 => k_is)
    (case a23 => k_is)
    (case l23 => k_is)
    (case c23 => k_is)
    (case k23 => k_is)
    (case a24 => k_is)
    (case l24 => k_is)
    (case c24 => k_is)
    (case k24 => k_is)
    (case a25 => k_is)
    (case l25 => k_is)
    (case c25 => k_is)
    (case k25 => k_is)
    (case a26 => k_is)
    (case l26 => k_is)
    (case c26 => k_is)
    (case k26 => k_is)
    (case a27 => k_is)
    (case l27 => k_is)
    (case c27 => k_is)
    (case k27 => k_is)
    (case a28 => k_is)
    (case l28 => k_is)
    (case c28 => k_is)
    (case k28 => k_is)
    (case a29 => k_is)
    (case l29 => k_is)
    (case c29 => k_is)
    (case k29 => k_is)
    (case a30 => k_is)
    (case l30 => k_is)
    (case c30 => k_is)
    (case k30 => k_is)
    (case a31 => k_is)
    (case l31 => k_is)
    (case c31 => k_is)
    (case k31 => k_is)
    (case a32 => k_is)
    (case l32 => k_is)
    (case c32 => k_is)
    (case k32 => k_is)
    (case z_abs => k_is)
    (case z_bool => k_is)
    (case z_int => k_is)
    (case z_isinstance => k_is)
    (case z_len => k_is)
    (case z_list => k_is)
    (case z_max => k_is)
    (case z_range => k_is)
    (case z_reversed => k_is)
    (case z_sum => k_is)
    (case z_tuple => k_is)
    (case ae_NotBraidRow => k_is)
    (case ae_BraidError => k_is)
    (case ae_NotPure => k_is)
    (case z_ValueError => k_is)
    (case xP_NotBraidRow => k_exc)
    (case kP_NotBraidRow => k_is)
    (case bP_NotBraidRow => k_is)
    (case tP_NotBraidRow => k_is)
    (case hg_NotBraidRow => k_is)
    (case hk_NotBraidRow => k_is)
    (case hs_NotBraidRow => k_is)
    (case hd_NotBraidRow => k_is)
    (case ha_NotBraidRow => k_is)
    (case hn_NotBraidRow => k_is)
    (case ht_NotBraidRow => k_is)
    (case hm_NotBraidRow => k_is)
    (case em_NotBraidRow_NotBraidRow => kts_exm)
    (case ei_BraidError_NotBraidRow => kit_is)
    (case ei_ValueError_NotBraidRow => kit_is)
    (case ei_NotPure_NotBraidRow => kit_is)
